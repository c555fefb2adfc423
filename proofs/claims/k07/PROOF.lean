import PyProof.Rows.All
import Wide.All
import OpenK.AllK
import Wide.FinOn
import HandS.ForMost
import HandS.Zip
import HandS.IsInst
import HandS.Deep
import HandS.TupAny
import HandS.TupMul
import HandS.Conv
import HandS.Strs
import HandS.Style
import HandS.Wide
import PyProof.P3In
import PyProof.ReprRoads
import PyProof.CallFns
import KE.GoesEnum
import KE.GoesMore
import HandS.SetFor
import HandS.EndBits
import PySem.Challenge.RW_rowalone_k07_whole_boxes_as_their_points
set_option Elab.async false
set_option linter.all false
set_option maxRecDepth 100000
set_option maxHeartbeats 4000000
namespace Bx
open PySem PySem.Spec L2

/-! ### data that stands in the known heap -/
mutual
inductive Dq (k : Hp) : V → PyData → Prop
  | non : Dq k .non .none
  | bl (b : Bool) : Dq k (.bl b) (.bool b)
  | int (i : Int) : Dq k (.int i) (.int i)
  | str (x : Str) : Dq k (.str x) (.str x)
  | lst {a : Addr} {xs : List V} {ds : List PyData} : k a = some (.lst xs) → DqAll k xs ds → Dq k (.ref a) (.list ds)
  | tup {a : Addr} {xs : List V} {ds : List PyData} : k a = some (.tup xs) → DqAll k xs ds → Dq k (.ref a) (.tuple ds)
inductive DqAll (k : Hp) : List V → List PyData → Prop
  | nil : DqAll k [] []
  | cons {v : V} {vs : List V} {d : PyData} {ds : List PyData} : Dq k v d → DqAll k vs ds → DqAll k (v :: vs) (d :: ds)
end
mutual
theorem Dq.mono {k k' : Hp} (e : Same k k') : ∀ {d : PyData} {v : V}, Dq k v d → Dq k' v d
  | .none, _, h => by cases h; exact .non
  | .bool _, _, h => by cases h; exact .bl _
  | .int _, _, h => by cases h; exact .int _
  | .str _, _, h => by cases h; exact .str _
  | .list ds, _, h => by
    cases h with
    | lst h1 h2 => exact .lst (e _ _ h1) (DqAll.mono e h2)
  | .tuple ds, _, h => by
    cases h with
    | tup h1 h2 => exact .tup (e _ _ h1) (DqAll.mono e h2)
  | .dict _, _, h => by cases h
theorem DqAll.mono {k k' : Hp} (e : Same k k') : ∀ {ds : List PyData} {vs : List V}, DqAll k vs ds → DqAll k' vs ds
  | [], _, h => by cases h; exact .nil
  | d :: ds, _, h => by
    cases h with
    | cons h1 h2 => exact .cons (Dq.mono e h1) (DqAll.mono e h2)
end
mutual
theorem Dq.dp {k : Hp} (K : PySem.W.Frag) : ∀ {d : PyData} {v : V}, Dq k v d → Dp K k v d
  | .none, _, h => by cases h; exact .non
  | .bool _, _, h => by cases h; exact .bl _
  | .int _, _, h => by cases h; exact .int _
  | .str _, _, h => by cases h; exact .str _
  | .list ds, _, h => by
    cases h with
    | lst h1 h2 => exact .lst (.inl (.inl h1)) (DqAll.dp K h2)
  | .tuple ds, _, h => by
    cases h with
    | tup h1 h2 => exact .tup (.inl (.inl h1)) (DqAll.dp K h2)
  | .dict _, _, h => by cases h
theorem DqAll.dp {k : Hp} (K : PySem.W.Frag) : ∀ {ds : List PyData} {vs : List V}, DqAll k vs ds → DpAll K k vs ds
  | [], _, h => by cases h; exact .nil
  | d :: ds, _, h => by
    cases h with
    | cons h1 h2 => exact .cons (Dq.dp K h1) (DqAll.dp K h2)
end
theorem DqAll.length {k : Hp} : ∀ {ds : List PyData} {vs : List V}, DqAll k vs ds → vs.length = ds.length
  | [], _, h => by cases h; rfl
  | d :: ds, _, h => by
    cases h with
    | cons h1 h2 => rw [List.length_cons, List.length_cons, DqAll.length h2]
theorem DqAll.append {k : Hp} : ∀ {ds es : List PyData} {vs us : List V}, DqAll k vs ds → DqAll k us es → DqAll k (vs ++ us) (ds ++ es)
  | [], _, _, _, h, g => by cases h; exact g
  | d :: ds, _, _, _, h, g => by
    cases h with
    | cons h1 h2 => exact .cons h1 (DqAll.append h2 g)
theorem DqAll.one {k : Hp} {v : V} {d : PyData} (h : Dq k v d) : DqAll k [v] [d] := .cons h .nil
theorem DqAll.get {k : Hp} : ∀ {ds : List PyData} {vs : List V} {i : Nat} {v : V}, DqAll k vs ds → vs[i]? = some v → ∃ d, ds[i]? = some d ∧ Dq k v d
  | [], _, _, _, h, e => by cases h; simp at e
  | d :: ds, _, 0, _, h, e => by
    cases h with
    | cons h1 h2 => cases e; exact ⟨d, rfl, h1⟩
  | d :: ds, _, i + 1, v, h, e => by
    cases h with
    | cons h1 h2 => exact DqAll.get (i := i) h2 (by simpa using e)
theorem DqAll.got {k : Hp} : ∀ {ds : List PyData} {vs : List V} {i : Nat} {d : PyData}, DqAll k vs ds → ds[i]? = some d → ∃ v, vs[i]? = some v ∧ Dq k v d
  | [], _, _, _, h, e => by simp at e
  | d :: ds, _, 0, _, h, e => by
    cases h with
    | cons h1 h2 => cases e; exact ⟨_, rfl, h1⟩
  | d :: ds, _, i + 1, d', h, e => by
    cases h with
    | cons h1 h2 => exact DqAll.got (i := i) h2 (by simpa using e)
theorem DqAll.set {k : Hp} {v : V} {d : PyData} (r : Dq k v d) : ∀ {ds : List PyData} {vs : List V} (i : Nat), DqAll k vs ds → DqAll k (vs.set i v) (ds.set i d)
  | [], _, _, h => by cases h; exact .nil
  | _ :: _, _, 0, h => by
    cases h with
    | cons _ h2 => exact .cons r h2
  | _ :: _, _, i + 1, h => by
    cases h with
    | cons h1 h2 => exact .cons h1 (DqAll.set r i h2)
theorem DqAll.take {k : Hp} : ∀ {ds : List PyData} {vs : List V} (n : Nat), DqAll k vs ds → DqAll k (vs.take n) (ds.take n)
  | _, _, 0, _ => .nil
  | [], _, _ + 1, h => by cases h; exact .nil
  | _ :: _, _, n + 1, h => by
    cases h with
    | cons h1 h2 => exact .cons h1 (DqAll.take n h2)
theorem DqAll.drop {k : Hp} : ∀ {ds : List PyData} {vs : List V} (n : Nat), DqAll k vs ds → DqAll k (vs.drop n) (ds.drop n)
  | _, _, 0, h => h
  | [], _, _ + 1, h => by cases h; exact .nil
  | _ :: _, _, n + 1, h => by
    cases h with
    | cons h1 h2 => exact DqAll.drop n h2
theorem DqAll.reverse {k : Hp} : ∀ {ds : List PyData} {vs : List V}, DqAll k vs ds → DqAll k vs.reverse ds.reverse
  | [], _, h => by cases h; exact .nil
  | d :: ds, _, h => by
    cases h with
    | cons h1 h2 =>
      rw [List.reverse_cons, List.reverse_cons]
      exact DqAll.append (DqAll.reverse h2) (.one h1)
theorem Dq.int_inv {k : Hp} {v : V} {i : Int} (h : Dq k v (.int i)) : v = .int i := by cases h; rfl
theorem Dq.bool_inv {k : Hp} {v : V} {i : Bool} (h : Dq k v (.bool i)) : v = .bl i := by cases h; rfl
theorem Dq.str_inv {k : Hp} {v : V} {i : Str} (h : Dq k v (.str i)) : v = .str i := by cases h; rfl
theorem Dq.none_inv {k : Hp} {v : V} (h : Dq k v .none) : v = .non := by cases h; rfl
theorem Dq.list_inv {k : Hp} {v : V} {ds : List PyData} (h : Dq k v (.list ds)) : ∃ a xs, v = .ref a ∧ k a = some (.lst xs) ∧ DqAll k xs ds := by cases h with | lst h1 h2 => exact ⟨_, _, rfl, h1, h2⟩
theorem Dq.tuple_inv {k : Hp} {v : V} {ds : List PyData} (h : Dq k v (.tuple ds)) : ∃ a xs, v = .ref a ∧ k a = some (.tup xs) ∧ DqAll k xs ds := by cases h with | tup h1 h2 => exact ⟨_, _, rfl, h1, h2⟩
theorem DqAll.ints {k : Hp} : ∀ {ns : List Int} {vs : List V}, DqAll k vs (ns.map PyData.int) → vs = ns.map V.int
  | [], _, h => by cases h; rfl
  | n :: ns, _, h => by
    cases h with
    | cons h1 h2 => rw [DqAll.ints h2, h1.int_inv]; rfl
theorem DqAll.ofInts {k : Hp} : ∀ (ns : List Int), DqAll k (ns.map V.int) (ns.map PyData.int)
  | [] => .nil
  | n :: ns => .cons (.int n) (DqAll.ofInts ns)
theorem DqAll.bools {k : Hp} : ∀ {ns : List Bool} {vs : List V}, DqAll k vs (ns.map PyData.bool) → vs = ns.map V.bl
  | [], _, h => by cases h; rfl
  | n :: ns, _, h => by
    cases h with
    | cons h1 h2 => rw [DqAll.bools h2, h1.bool_inv]; rfl

/-! ### one heap behind another: k what is known as data, h all -/
structure LeM (M : Addr → Prop) (k h k' h' : Hp) : Prop where
  kk : Same k k'
  hh : ∀ a o, ¬ M a → h a = some o → h' a = some o
  kh : Same k' h'
  sp : ∀ a, h a ≠ none → k a = none → k' a = none
  al : ∀ a, h a ≠ none → h' a ≠ none
abbrev M0 : Addr → Prop := fun _ => False
abbrev Le : Hp → Hp → Hp → Hp → Prop := LeM M0
theorem ne_none_of {h : Hp} {a : Addr} {o : HO} (e : h a = some o) : h a ≠ none := by rw [e]; exact fun z => nomatch z
theorem LeM.refl {M : Addr → Prop} {k h : Hp} (e : Same k h) : LeM M k h k h := ⟨.refl _, fun _ _ _ z => z, e, fun _ _ z => z, fun _ z => z⟩
theorem LeM.trans {M : Addr → Prop} {k h k1 h1 k2 h2 : Hp} (a : LeM M k h k1 h1) (b : LeM M k1 h1 k2 h2) : LeM M k h k2 h2 :=
  ⟨a.kk.trans b.kk, fun x o n z => b.hh x o n (a.hh x o n z), b.kh, fun x n z => b.sp x (a.al x n) (a.sp x n z), fun x n => b.al x (a.al x n)⟩
theorem LeM.imp {M N : Addr → Prop} {k h k' h' : Hp} (a : LeM M k h k' h') (i : ∀ x, M x → N x) : LeM N k h k' h' :=
  ⟨a.kk, fun x o n z => a.hh x o (fun m => n (i x m)) z, a.kh, a.sp, a.al⟩
theorem Le.any {M : Addr → Prop} {k h k' h' : Hp} (a : Le k h k' h') : LeM M k h k' h' := LeM.imp a fun _ z => z.elim
theorem Le.same {k h k' h' : Hp} (a : Le k h k' h') : Same h h' := fun x o z => a.hh x o (fun m => m) z
theorem Le.of {k h k' h' : Hp} (kk : Same k k') (hh : Same h h') (kh : Same k' h') (sp : ∀ a, h a ≠ none → k a = none → k' a = none) : Le k h k' h' :=
  ⟨kk, fun x o _ z => hh x o z, kh, sp, fun a n => by
    cases q : h a with
    | none => exact absurd q n
    | some o => exact ne_none_of (hh a o q)⟩
/-- what only grows, nothing more known -/
theorem Le.grow {k h h' : Hp} (e : Same k h) (g : Same h h') : Le k h k h' := .of (.refl _) g (e.trans g) fun _ _ z => z
theorem same_new {h : Hp} {p : Addr} {o : HO} (n : h p = none) : Same h (upd h p o) := fun b x e => by rw [upd_ne (ne_of_none e n)]; exact e
theorem same_up {k h : Hp} {p : Addr} {o : HO} (e : Same k h) : Same (upd k p o) (upd h p o) := fun b x z => by
  by_cases hb : b = p
  · subst hb; rw [upd_same] at z ⊢; exact z
  · rw [upd_ne hb] at z ⊢; exact e b x z
/-- a new object, known from now on -/
theorem Le.new {k h : Hp} {p : Addr} {o : HO} (e : Same k h) (n : h p = none) : Le k h (upd k p o) (upd h p o) :=
  .of (same_new (e.free n)) (same_new n) (same_up e) fun a z w => by
    have : a ≠ p := fun q => z (by rw [q]; exact n)
    rw [upd_ne this]; exact w
/-- an object that stands there, unknown so far, becomes known -/
theorem Le.know {k h k' h' : Hp} {p : Addr} {o : HO} (l : Le k h k' h') (n : h p = none) (n' : k' p = none) (e : h' p = some o) : Le k h (upd k' p o) h' :=
  .of (l.kk.trans (same_new n')) l.same (fun a u z => by
    by_cases hb : a = p
    · subst hb; rw [upd_same] at z; cases z; exact e
    · rw [upd_ne hb] at z; exact l.kh a u z) fun a z w => by
    have : a ≠ p := fun q => z (by rw [q]; exact n)
    rw [upd_ne this]; exact l.sp a z w

/-! ### slots -/
inductive Sl where
  | non | dat (d : PyData) | mu (ds : List PyData) | hp (a c : Addr)
abbrev Ge := List Sl
structure HpAt (k h : Hp) (a c : Addr) : Prop where
  has : ∃ (cs : List Int) (z : Int), h a = some (.lst [.ref c, .int z]) ∧ h c = some (.lst (cs.map V.int)) ∧ cs.length ≤ 60
  ka : k a = none
  kc : k c = none
  ac : a ≠ c
def SlOk (k h : Hp) : Sl → Option V → Prop
  | .non, _ => True
  | .dat d, v => ∃ u, v = some u ∧ Dq k u d
  | .mu ds, v => ∃ p xs, v = some (.ref p) ∧ k p = none ∧ h p = some (.lst xs) ∧ DqAll k xs ds
  | .hp a c, v => v = some (.ref a) ∧ HpAt k h a c
def Owns : Sl → Option V → Addr → Prop
  | .mu _, v, p => v = some (.ref p)
  | .hp a c, _, p => p = a ∨ p = c
  | _, _, _ => False
structure Env (k h : Hp) (σ : St) (Γ : Ge) : Prop where
  len : σ.length = Γ.length
  ok : ∀ (i : Nat) s, Γ[i]? = some s → ∃ v, σ[i]? = some v ∧ SlOk k h s v
  own : ∀ (i j : Nat) s t v u, i ≠ j → Γ[i]? = some s → Γ[j]? = some t → σ[i]? = some v → σ[j]? = some u → ∀ p, Owns s v p → Owns t u p → False
theorem Owns.here {k h : Hp} {s : Sl} {v : Option V} {p : Addr} (ok : SlOk k h s v) (w : Owns s v p) : h p ≠ none ∧ k p = none := by
  cases s with
  | non => exact w.elim
  | dat d => exact w.elim
  | mu ds =>
    obtain ⟨q, xs, e, n, z, _⟩ := ok
    have w : v = some (.ref p) := w
    rw [e] at w; cases w
    exact ⟨ne_none_of z, n⟩
  | hp a c =>
    obtain ⟨e, ha⟩ := ok
    obtain ⟨cs, z, h1, h2, _⟩ := ha.has
    rcases w with w | w
    · rw [w]; exact ⟨ne_none_of h1, ha.ka⟩
    · rw [w]; exact ⟨ne_none_of h2, ha.kc⟩
theorem SlOk.le {k h k' h' : Hp} {s : Sl} {v : Option V} (ok : SlOk k h s v) (l : Le k h k' h') : SlOk k' h' s v := by
  cases s with
  | non => trivial
  | dat d => obtain ⟨u, e, r⟩ := ok; exact ⟨u, e, r.mono l.kk⟩
  | mu ds => obtain ⟨q, xs, e, n, z, r⟩ := ok; exact ⟨q, xs, e, l.sp q (ne_none_of z) n, l.same _ _ z, r.mono l.kk⟩
  | hp a c =>
    obtain ⟨e, ⟨cs, z, h1, h2, h3⟩, ka, kc, ac⟩ := ok
    exact ⟨e, ⟨cs, z, l.same _ _ h1, l.same _ _ h2, h3⟩, l.sp a (ne_none_of h1) ka, l.sp c (ne_none_of h2) kc, ac⟩
theorem Env.le {k h k' h' : Hp} {σ : St} {Γ : Ge} (E : Env k h σ Γ) (l : Le k h k' h') : Env k' h' σ Γ where
  len := E.len
  ok := fun i s e => let ⟨v, a, b⟩ := E.ok i s e; ⟨v, a, b.le l⟩
  own := E.own
theorem Env.dat {k h : Hp} {σ : St} {Γ : Ge} {i : Nat} {d : PyData} (E : Env k h σ Γ) (e : Γ[i]? = some (.dat d)) : ∃ u, σ[i]? = some (some u) ∧ Dq k u d := by
  obtain ⟨v, a, u, b, c⟩ := E.ok i _ e
  exact ⟨u, by rw [a, b], c⟩
/-- a slot that owns nothing is set -/
theorem Env.setD {k h : Hp} {σ : St} {Γ : Ge} {v : V} {d : PyData} (E : Env k h σ Γ) (i : Nat) (r : Dq k v d) : Env k h (σ.set i (some v)) (Γ.set i (.dat d)) where
  len := by rw [List.length_set, List.length_set]; exact E.len
  ok := fun j s e => by
    by_cases hj : i = j
    · subst hj
      by_cases hl : i < Γ.length
      · rw [List.getElem?_set_self hl] at e; cases e
        exact ⟨some v, by rw [List.getElem?_set_self (by rw [E.len]; exact hl)], v, rfl, r⟩
      · rw [List.getElem?_eq_none (by simpa using hl)] at e; cases e
    · rw [List.getElem?_set_ne hj] at e ⊢
      exact E.ok j s e
  own := fun a b s t x u ab e1 e2 f1 f2 p w1 w2 => by
    by_cases ha : i = a
    · subst ha
      by_cases hl : i < Γ.length
      · rw [List.getElem?_set_self hl] at e1; cases e1; exact w1
      · rw [List.getElem?_eq_none (by simpa using hl)] at e1; cases e1
    · by_cases hb : i = b
      · subst hb
        by_cases hl : i < Γ.length
        · rw [List.getElem?_set_self hl] at e2; cases e2; exact w2
        · rw [List.getElem?_eq_none (by simpa using hl)] at e2; cases e2
      · rw [List.getElem?_set_ne ha] at e1 f1
        rw [List.getElem?_set_ne hb] at e2 f2
        exact E.own a b s t x u ab e1 e2 f1 f2 p w1 w2
/-- forgotten -/
theorem Env.setN {k h : Hp} {σ : St} {Γ : Ge} (E : Env k h σ Γ) (i : Nat) (v : Option V) : Env k h (σ.set i v) (Γ.set i .non) where
  len := by rw [List.length_set, List.length_set]; exact E.len
  ok := fun j s e => by
    by_cases hj : i = j
    · subst hj
      by_cases hl : i < Γ.length
      · rw [List.getElem?_set_self hl] at e; cases e
        exact ⟨v, by rw [List.getElem?_set_self (by rw [E.len]; exact hl)], trivial⟩
      · rw [List.getElem?_eq_none (by simpa using hl)] at e; cases e
    · rw [List.getElem?_set_ne hj] at e ⊢
      exact E.ok j s e
  own := fun a b s t x u ab e1 e2 f1 f2 p w1 w2 => by
    by_cases ha : i = a
    · subst ha
      by_cases hl : i < Γ.length
      · rw [List.getElem?_set_self hl] at e1; cases e1; exact w1
      · rw [List.getElem?_eq_none (by simpa using hl)] at e1; cases e1
    · by_cases hb : i = b
      · subst hb
        by_cases hl : i < Γ.length
        · rw [List.getElem?_set_self hl] at e2; cases e2; exact w2
        · rw [List.getElem?_eq_none (by simpa using hl)] at e2; cases e2
      · rw [List.getElem?_set_ne ha] at e1 f1
        rw [List.getElem?_set_ne hb] at e2 f2
        exact E.own a b s t x u ab e1 e2 f1 f2 p w1 w2
/-- a new list of the def's own -/
theorem Env.setM {k h : Hp} {σ : St} {Γ : Ge} {p : Addr} {xs : List V} {ds : List PyData} (E : Env k h σ Γ) (i : Nat) (n : k p = none) (e : h p = some (.lst xs)) (r : DqAll k xs ds)
    (fr : ∀ (j : Nat) s v, Γ[j]? = some s → σ[j]? = some v → ¬ Owns s v p) : Env k h (σ.set i (some (.ref p))) (Γ.set i (.mu ds)) where
  len := by rw [List.length_set, List.length_set]; exact E.len
  ok := fun j s e' => by
    by_cases hj : i = j
    · subst hj
      by_cases hl : i < Γ.length
      · rw [List.getElem?_set_self hl] at e'; cases e'
        exact ⟨_, by rw [List.getElem?_set_self (by rw [E.len]; exact hl)], p, xs, rfl, n, e, r⟩
      · rw [List.getElem?_eq_none (by simpa using hl)] at e'; cases e'
    · rw [List.getElem?_set_ne hj] at e' ⊢
      exact E.ok j s e'
  own := fun a b s t x u ab e1 e2 f1 f2 q w1 w2 => by
    have self : ∀ {s v q}, (Γ.set i (.mu ds))[i]? = some s → (σ.set i (some (.ref p)))[i]? = some v → Owns s v q → q = p := fun {s v q} e f w => by
      by_cases hl : i < Γ.length
      · rw [List.getElem?_set_self hl] at e
        rw [List.getElem?_set_self (by rw [E.len]; exact hl)] at f
        cases e; cases f
        have w : some (V.ref p) = some (V.ref q) := w
        cases w; rfl
      · rw [List.getElem?_eq_none (by simpa using hl)] at e; cases e
    by_cases ha : i = a
    · subst ha
      have := self e1 f1 w1
      subst this
      rw [List.getElem?_set_ne ab] at e2 f2
      exact fr b t u e2 f2 w2
    · by_cases hb : i = b
      · subst hb
        have := self e2 f2 w2
        subst this
        rw [List.getElem?_set_ne ha] at e1 f1
        exact fr a s x e1 f1 w1
      · rw [List.getElem?_set_ne ha] at e1 f1
        rw [List.getElem?_set_ne hb] at e2 f2
        exact E.own a b s t x u ab e1 e2 f1 f2 q w1 w2
def wipeG (Γ : Ge) : List Nat → Ge
  | [] => Γ
  | v :: vs => (wipeG Γ vs).set v .non
theorem Env.wipe {k h : Hp} {σ : St} {Γ : Ge} (E : Env k h σ Γ) : ∀ vs : List Nat, Env k h (L2.wipe σ vs) (wipeG Γ vs)
  | [] => E
  | v :: vs => (Env.wipe E vs).setN v none
theorem wipe_get (σ : St) (j : Nat) : ∀ vs : List Nat, (L2.wipe σ vs)[j]? = if j ∈ vs ∧ j < σ.length then some none else σ[j]?
  | [] => by simp [L2.wipe]
  | v :: vs => by
    unfold L2.wipe
    by_cases hv : v = j
    · subst hv
      by_cases hl : v < σ.length
      · rw [List.getElem?_set_self (by rw [wipe_length]; exact hl), if_pos ⟨List.mem_cons_self, hl⟩]
      · rw [List.getElem?_eq_none (by rw [List.length_set, wipe_length]; omega), if_neg (fun z => hl z.2), List.getElem?_eq_none (by omega)]
    · rw [List.getElem?_set_ne hv, wipe_get σ j vs]
      have e : (j ∈ v :: vs) = (j ∈ vs) := by
        rw [List.mem_cons]
        exact propext ⟨fun z => z.elim (fun q => absurd q.symm hv) id, .inr⟩
      simp only [e]
theorem wipe_eq {σ τ : St} {vs : List Nat} (hl : τ.length = σ.length) (h : ∀ j : Nat, j ∉ vs → τ[j]? = σ[j]?) : L2.wipe τ vs = L2.wipe σ vs := by
  apply List.ext_getElem?
  intro j
  rw [wipe_get, wipe_get, hl]
  by_cases hj : j ∈ vs
  · by_cases hs : j < σ.length
    · rw [if_pos ⟨hj, hs⟩, if_pos ⟨hj, hs⟩]
    · rw [if_neg (fun z => hs z.2), if_neg (fun z => hs z.2), List.getElem?_eq_none (by omega), List.getElem?_eq_none (by omega)]
  · rw [if_neg (fun z => hj z.1), if_neg (fun z => hj z.1)]
    exact h j hj
theorem wipe_wipe (σ : St) (vs : List Nat) : L2.wipe (L2.wipe σ vs) vs = L2.wipe σ vs := wipe_eq (wipe_length σ vs) fun j hj => by rw [wipe_get, if_neg (fun z => hj z.1)]
end Bx
namespace Bx
open PySem PySem.Spec L2

/-! ### what evaluates to what -/
def EvD (te : TE) (Γ : Ge) (d : PyData) : Prop := ∀ k h σ, Same k h → Env k h σ Γ → ∀ Q : VK, (∀ v k' h', Le k h k' h' → Dq k' v d → Q v h') → te σ h Q
def EvT (t : TT) (Γ : Ge) (b : Bool) : Prop := ∀ k h σ, Same k h → Env k h σ Γ → ∀ Q : Bool → Hp → Prop, (∀ h', Same h h' → Q b h') → t σ h Q
def EvA (t : TA) (Γ : Ge) (ds : List PyData) : Prop := ∀ k h σ, Same k h → Env k h σ Γ → ∀ Q : List V → Hp → Prop, (∀ vs k' h', Le k h k' h' → DqAll k' vs ds → Q vs h') → t σ h Q
/-- a new list, not yet known as data -/
def EvL (te : TE) (Γ : Ge) (ds : List PyData) : Prop := ∀ k h σ, Same k h → Env k h σ Γ → ∀ Q : VK,
  (∀ p xs k' h', Le k h k' h' → h p = none → k' p = none → h' p = some (.lst xs) → DqAll k' xs ds → Q (.ref p) h') → te σ h Q
def OpD (r : R2) (a b d : PyData) : Prop := ∀ k h x y, Same k h → Dq k x a → Dq k y b → ∀ Q : VK, (∀ v k' h', Le k h k' h' → Dq k' v d → Q v h') → r x y h Q
def UnD (r : V → Hp → VK → Prop) (a d : PyData) : Prop := ∀ k h x, Same k h → Dq k x a → ∀ Q : VK, (∀ v k' h', Le k h k' h' → Dq k' v d → Q v h') → r x h Q
def CaD (r : List V → Hp → VK → Prop) (ds : List PyData) (d : PyData) : Prop := ∀ k h vs, Same k h → DqAll k vs ds → ∀ Q : VK, (∀ v k' h', Le k h k' h' → Dq k' v d → Q v h') → r vs h Q
/-- the promise of a def that changes nothing: a relation of data -/
def spD (R : List PyData → PyData → Prop) : Sp := fun vs H Q _ => ∃ (k : Hp) (ds : List PyData) (d : PyData), Same k H ∧ DqAll k vs ds ∧ R ds d ∧ ∀ v k' H', Le k H k' H' → Dq k' v d → Q v H'

section
variable {Γ : Ge} {ta tb te tc : TE} {t u : TT} {a b d : PyData} {ds es : List PyData} {targ : TA} {K : PySem.W.Frag}
theorem el_d (h : EvL te Γ ds) : EvD te Γ (.list ds) := fun k hp σ e E Q q => h k hp σ e E Q fun p xs k' h' l n n' z r =>
  q _ _ _ (l.know n n' z) (.lst upd_same (r.mono (same_new n')))
theorem ev_var {i : Nat} (e : Γ[i]? = some (.dat d)) : EvD (tVar i) Γ d := fun k h σ s E Q q => by
  obtain ⟨u, e1, r⟩ := E.dat e
  exact ⟨u, e1, q u k h (.refl s) r⟩
theorem ev_int {i : Int} : EvD (tC (.int i)) Γ (.int i) := fun k h σ s E Q q => q _ k h (.refl s) (.int i)
theorem ev_str {i : Str} : EvD (tC (.str i)) Γ (.str i) := fun k h σ s E Q q => q _ k h (.refl s) (.str i)
theorem ev_bl {i : Bool} : EvD (tC (.bl i)) Γ (.bool i) := fun k h σ s E Q q => q _ k h (.refl s) (.bl i)
theorem ev_non : EvD (tC .non) Γ .none := fun k h σ s E Q q => q _ k h (.refl s) .non
theorem ev_is (h : EvD te Γ a) (e : a = d) : EvD te Γ d := e ▸ h
theorem et_is {x y : Bool} (h : EvT t Γ x) (e : x = y) : EvT t Γ y := e ▸ h
theorem ev_op {r : R2} (ha : EvD ta Γ a) (hb : EvD tb Γ b) (ho : OpD r a b d) : EvD (tOp r ta tb) Γ d := fun k h σ s E Q q =>
  ha k h σ s E _ fun x k1 h1 l1 rx => hb k1 h1 σ l1.kh (E.le l1) _ fun y k2 h2 l2 ry => ho k2 h2 x y l2.kh (rx.mono l2.kk) ry Q fun v k3 h3 l3 rv => q v k3 h3 ((l1.trans l2).trans l3) rv
theorem ev_un {r : V → Hp → VK → Prop} (ha : EvD ta Γ a) (ho : UnD r a d) : EvD (tUn r ta) Γ d := fun k h σ s E Q q =>
  ha k h σ s E _ fun x k1 h1 l1 rx => ho k1 h1 x l1.kh rx Q fun v k3 h3 l3 rv => q v k3 h3 (l1.trans l3) rv
theorem ea_nil : EvA tNil Γ [] := fun k h σ s E Q q => q [] k h (.refl s) .nil
theorem ea_cons (ha : EvD ta Γ a) (hb : EvA targ Γ ds) : EvA (tCons ta targ) Γ (a :: ds) := fun k h σ s E Q q =>
  ha k h σ s E _ fun x k1 h1 l1 rx => hb k1 h1 σ l1.kh (E.le l1) _ fun ys k2 h2 l2 ry => q _ k2 h2 (l1.trans l2) (.cons (rx.mono l2.kk) ry)
theorem ev_tup (h : EvA targ Γ ds) (hl : ds.length ≤ 1000) : EvD (tTup targ) Γ (.tuple ds) := fun k hp σ s E Q q =>
  h k hp σ s E _ fun vs k1 h1 l1 r => ⟨by rw [r.length]; exact Nat.le_trans hl (by decide), fun p n =>
    q _ _ _ (l1.trans (Le.new l1.kh n)) (.tup upd_same (r.mono (same_new (l1.kh.free n))))⟩
theorem el_lst (h : EvA targ Γ ds) (hl : ds.length ≤ 1000) : EvL (tLst targ) Γ ds := fun k hp σ s E Q q =>
  h k hp σ s E _ fun vs k1 h1 l1 r => ⟨by rw [r.length]; exact Nat.le_trans hl (by decide), fun p n =>
    q p vs k1 (upd h1 p (.lst vs)) (l1.trans (Le.grow l1.kh (same_new n))) (l1.same.free n) (l1.kh.free n) upd_same r⟩
theorem ev_lst (h : EvA targ Γ ds) (hl : ds.length ≤ 1000) : EvD (tLst targ) Γ (.list ds) := el_d (el_lst h hl)
theorem ev_cb {r : List V → Hp → VK → Prop} (h : EvA targ Γ ds) (ho : CaD r ds d) : EvD (tCB r targ) Γ d := fun k hp σ s E Q q =>
  h k hp σ s E _ fun vs k1 h1 l1 rv => ho k1 h1 vs l1.kh rv Q fun v k3 h3 l3 r => q v k3 h3 (l1.trans l3) r
theorem ev_call {R : List PyData → PyData → Prop} {E : XK} (h : EvA targ Γ ds) (hr : R ds d) : EvD (tCall (spD R) [] E targ) Γ d := fun k hp σ s En Q q =>
  h k hp σ s En _ fun vs k1 h1 l1 rv => ⟨k1, ds, d, l1.kh, by rw [List.append_nil]; exact rv, hr, fun v k3 h3 l3 r => q v k3 h3 (l1.trans l3) r⟩
theorem ev_callK {R : List PyData → PyData → Prop} {E : XK} {tk : TA} {gV : List V → List V → List V} {gs : List PyData} (h : EvA targ Γ ds) (hk : EvA tk Γ es) (hg : ∀ k vs zs, DqAll k vs ds → DqAll k zs es → DqAll k (gV vs zs) gs) (hr : R gs d) :
    EvD (tCallK (spD R) gV E targ tk) Γ d := fun k hp σ s En Q q =>
  h k hp σ s En _ fun vs k1 h1 l1 rv => hk k1 h1 σ l1.kh (En.le l1) _ fun zs k2 h2 l2 rz => ⟨k2, gs, d, l2.kh, hg k2 vs zs (rv.mono l2.kk) rz, hr, fun v k3 h3 l3 r => q v k3 h3 ((l1.trans l2).trans l3) r⟩
theorem ev_if {c : Bool} (h : EvT t Γ c) (h1 : c = true → EvD ta Γ d) (h2 : c = false → EvD tb Γ d) : EvD (tIf t ta tb) Γ d := fun k hp σ s E Q q => h k hp σ s E _ fun h' g => by
  have l : Le k hp k h' := .grow s g
  cases c with
  | true => exact h1 rfl k h' σ l.kh (E.le l) Q fun v k2 h2 l2 r => q v k2 h2 (l.trans l2) r
  | false => exact h2 rfl k h' σ l.kh (E.le l) Q fun v k2 h2 l2 r => q v k2 h2 (l.trans l2) r
/-- tests -/
theorem et_test {c : Bool} (h : EvD te Γ (.bool c)) : EvT (tTest te) Γ c := fun k hp σ s E Q q => h k hp σ s E _ fun v k' h' l r => ⟨c, r.bool_inv, q h' l.same⟩
theorem et_B {c : Bool} (h : EvD te Γ (.bool c)) : EvT (tB te) Γ c := fun k hp σ s E Q q => h k hp σ s E _ fun v k' h' l r => ⟨c, r.bool_inv, q h' l.same⟩
theorem et_yes : EvT tYes Γ true := fun k hp σ s E Q q => q hp (.refl hp)
theorem et_not {c : Bool} (h : EvT t Γ c) : EvT (tNot t) Γ (!c) := fun k hp σ s E Q q => h k hp σ s E _ q
theorem et_and {x y : Bool} (h1 : EvT t Γ x) (h2 : x = true → EvT u Γ y) : EvT (tAnd t u) Γ (x && y) := fun k hp σ s E Q q => h1 k hp σ s E _ fun h' g => by
  have l : Le k hp k h' := .grow s g
  cases x with
  | true => exact h2 rfl k h' σ l.kh (E.le l) Q fun h2 g2 => q h2 (g.trans g2)
  | false => exact q h' g
theorem et_or {x y : Bool} (h1 : EvT t Γ x) (h2 : x = false → EvT u Γ y) : EvT (tOr t u) Γ (x || y) := fun k hp σ s E Q q => h1 k hp σ s E _ fun h' g => by
  have l : Le k hp k h' := .grow s g
  cases x with
  | true => exact q h' g
  | false => exact h2 rfl k h' σ l.kh (E.le l) Q fun h2 g2 => q h2 (g.trans g2)
theorem ev_and {x y : Bool} (h1 : EvD ta Γ (.bool x)) (h2 : x = true → EvD tb Γ (.bool y)) : EvD (tAndV ta tb) Γ (.bool (x && y)) := fun k hp σ s E Q q => h1 k hp σ s E _ fun v k1 h' l r => ⟨x, r.bool_inv, by
  cases x with
  | true => exact h2 rfl k1 h' σ l.kh (E.le l) Q fun v k2 h2 l2 r => q v k2 h2 (l.trans l2) r
  | false => exact q _ k1 h' l (.bl _)⟩
theorem ev_or {x y : Bool} (h1 : EvD ta Γ (.bool x)) (h2 : x = false → EvD tb Γ (.bool y)) : EvD (tOrV ta tb) Γ (.bool (x || y)) := fun k hp σ s E Q q => h1 k hp σ s E _ fun v k1 h' l r => ⟨x, r.bool_inv, by
  cases x with
  | true => exact q _ k1 h' l (.bl _)
  | false => exact h2 rfl k1 h' σ l.kh (E.le l) Q fun v k2 h2 l2 r => q v k2 h2 (l.trans l2) r⟩
theorem ev_not {x : Bool} (h1 : EvD ta Γ (.bool x)) : EvD (tNotV ta) Γ (.bool (!x)) := fun k hp σ s E Q q => h1 k hp σ s E _ fun v k1 h' l r => ⟨x, r.bool_inv, q _ k1 h' l (.bl _)⟩
theorem ev_chain {r r' : R2} {x y z : PyData} {c e : Bool} (ha : EvD ta Γ x) (hb : EvD tb Γ y) (ho : OpD r x y (.bool c)) (hc : c = true → EvD tc Γ z) (ho' : c = true → OpD r' y z (.bool e)) : EvD (tChain r r' ta tb tc) Γ (.bool (c && e)) := fun k hp σ s E Q q =>
  ha k hp σ s E _ fun v k1 h1 l1 rx => hb k1 h1 σ l1.kh (E.le l1) _ fun w k2 h2 l2 ry => ho k2 h2 v w l2.kh (rx.mono l2.kk) ry _ fun b k3 h3 l3 rb => ⟨c, rb.bool_inv, by
    have l := (l1.trans l2).trans l3
    cases c with
    | true => exact hc rfl k3 h3 σ l3.kh (E.le l) _ fun z' k4 h4 l4 rz => ho' rfl k4 h4 w z' l4.kh (ry.mono (l3.kk.trans l4.kk)) rz Q fun v k5 h5 l5 r5 => q v k5 h5 ((l.trans l4).trans l5) r5
    | false => exact q _ k3 h3 l (.bl _)⟩

/-! ### operations on data -/
theorem op_ii {f : Int → Int → Int} {i j : Int} : OpD (rI0 fun i j => .int (f i j)) (.int i) (.int j) (.int (f i j)) := fun k h x y s rx ry Q q => ⟨i, j, rx.int_inv, ry.int_inv, q _ k h (.refl s) (.int _)⟩
theorem op_ib {f : Int → Int → Bool} {i j : Int} : OpD (rI0 fun i j => .bl (f i j)) (.int i) (.int j) (.bool (f i j)) := fun k h x y s rx ry Q q => ⟨i, j, rx.int_inv, ry.int_inv, q _ k h (.refl s) (.bl _)⟩
theorem op_iC {C : Int → Int → Prop} {f : Int → Int → Int} {i j : Int} (c : C i j) : OpD (rI C fun i j => .int (f i j)) (.int i) (.int j) (.int (f i j)) := fun k h x y s rx ry Q q => ⟨i, j, rx.int_inv, ry.int_inv, c, q _ k h (.refl s) (.int _)⟩
theorem un_i {f : Int → Int} {i : Int} : UnD (rU fun i => .int (f i)) (.int i) (.int (f i)) := fun k h x s rx Q q => ⟨i, rx.int_inv, q _ k h (.refl s) (.int _)⟩
theorem op_eqd (ha : SeqAt.shaped a = true) (hb : SeqAt.shaped b = true) : OpD (rEqD K) a b (.bool (PyData.eqv a b)) := fun k h x y s rx ry Q q => ⟨a, b, (rx.mono s).dp K, (ry.mono s).dp K, ha, hb, q _ k h (.refl s) (.bl _)⟩
theorem op_ned (ha : SeqAt.shaped a = true) (hb : SeqAt.shaped b = true) : OpD (rNeD K) a b (.bool (!PyData.eqv a b)) := fun k h x y s rx ry Q q => ⟨a, b, (rx.mono s).dp K, (ry.mono s).dp K, ha, hb, q _ k h (.refl s) (.bl _)⟩
def isNoneD : PyData → Bool
  | .none => true
  | _ => false
theorem Dq.isNone {k : Hp} {v : V} {d : PyData} (h : Dq k v d) : decide (v = .non) = isNoneD d := by cases h <;> rfl
theorem op_isN' : OpD (fun x y H Q => y = .non ∧ Q (.bl (decide (x = .non))) H) a .none (.bool (isNoneD a)) := fun k h x y s rx ry Q q => ⟨ry.none_inv, by rw [rx.isNone]; exact q _ k h (.refl s) (.bl _)⟩
theorem op_notN' : OpD (fun x y H Q => y = .non ∧ Q (.bl (!decide (x = .non))) H) a .none (.bool (!isNoneD a)) := fun k h x y s rx ry Q q => ⟨ry.none_inv, by rw [rx.isNone]; exact q _ k h (.refl s) (.bl _)⟩
theorem atI_got {k : Hp} {xs : List V} {ds : List PyData} {i : Int} {d : PyData} (r : DqAll k xs ds) (e : atI ds i = some d) : ∃ v, atI xs i = some v ∧ Dq k v d := by
  unfold atI at e ⊢
  rw [r.length]
  cases q : ixN ds.length i with
  | none => rw [q] at e; cases e
  | some j =>
    rw [q] at e
    exact r.got (i := j) e
theorem op_ixL {i : Int} (e : atI ds i = some d) : OpD (rIxL K) (.list ds) (.int i) d := fun k h x y s rx ry Q q => by
  obtain ⟨p, xs, e1, e2, r⟩ := rx.list_inv
  obtain ⟨v, e3, rv⟩ := atI_got r e
  exact ⟨p, xs, i, v, e1, ry.int_inv, .inl (.inl (s _ _ e2)), e3, q v k h (.refl s) rv⟩
theorem op_ixT {i : Int} (e : atI ds i = some d) : OpD (rIxT K) (.tuple ds) (.int i) d := fun k h x y s rx ry Q q => by
  obtain ⟨p, xs, e1, e2, r⟩ := rx.tuple_inv
  obtain ⟨v, e3, rv⟩ := atI_got r e
  exact ⟨p, xs, i, v, e1, ry.int_inv, .inl (.inl (s _ _ e2)), e3, q v k h (.refl s) rv⟩
theorem op_ixS {z : Str} {i : Int} {c : Nat} (hz : z.length ≤ 1000) (e : atI z.cps.toList i = some c) : OpD rIxS (.str z) (.int i) (.str ⟨#[c]⟩) := fun k h x y s rx ry Q q =>
  ⟨z, i, c, rx.str_inv, ry.int_inv, Nat.le_trans hz (by decide), e, q _ k h (.refl s) (.str _)⟩
theorem op_catl (hl : ds.length + es.length ≤ 1000) : OpD rCat (.list ds) (.list es) (.list (ds ++ es)) := fun k h x y s rx ry Q q => by
  obtain ⟨p, xs, e1, e2, r⟩ := rx.list_inv
  obtain ⟨p', xs', e1', e2', r'⟩ := ry.list_inv
  exact ⟨p, p', xs, xs', e1, e1', s _ _ e2, s _ _ e2', by rw [r.length, r'.length]; exact Nat.le_trans hl (by decide), fun c n => q _ _ _ (.new s n) (.lst upd_same ((r.append r').mono (same_new (s.free n))))⟩
theorem op_catt (hl : ds.length + es.length ≤ 1000) : OpD (rCatA K) (.tuple ds) (.tuple es) (.tuple (ds ++ es)) := fun k h x y s rx ry Q q => by
  obtain ⟨p, xs, e1, e2, r⟩ := rx.tuple_inv
  obtain ⟨p', xs', e1', e2', r'⟩ := ry.tuple_inv
  refine ⟨p, p', xs, xs', e1, e1', .inl (.inl (s _ _ e2)), .inl (.inl (s _ _ e2')), by rw [r.length, r'.length]; exact Nat.le_trans hl (by decide), fun z => ?_, fun _ z => ?_, fun _ _ c n => q _ _ _ (.new s n) (.tup upd_same ((r.append r').mono (same_new (s.free n))))⟩
  · subst z
    cases r
    exact q _ k h (.refl s) (.tup e2' r')
  · subst z
    cases r'
    rw [List.append_nil] at q
    exact q _ k h (.refl s) (.tup e2 r)
theorem ev_if1 {c : Bool} (h : EvT t Γ c) (e : c = true) (h1 : EvD ta Γ d) : EvD (tIf t ta tb) Γ d := ev_if h (fun _ => h1) fun z => by rw [e] at z; cases z
theorem ev_if0 {c : Bool} (h : EvT t Γ c) (e : c = false) (h1 : EvD tb Γ d) : EvD (tIf t ta tb) Γ d := ev_if h (fun z => by rw [e] at z; cases z) fun _ => h1

/-! ### calls of built-ins -/
theorem ca_abs {i : Int} : CaD (fun xs H Q => ∃ i, xs = [.int i] ∧ Q (.int (if i < 0 then -i else i)) H) [.int i] (.int (if i < 0 then -i else i)) := fun k h vs s r Q q => ⟨i, (DqAll.ints (ns := [i]) r), q _ k h (.refl s) (.int _)⟩
theorem ca_int {i : Int} : CaD (fun xs H Q => (∃ i, xs = [.int i] ∧ Q (.int i) H) ∨ ∃ k, xs = [.bl k] ∧ Q (.int (if k then 1 else 0)) H) [.int i] (.int i) := fun k h vs s r Q q => .inl ⟨i, (DqAll.ints (ns := [i]) r), q _ k h (.refl s) (.int _)⟩
theorem ca_intb {i : Bool} : CaD (fun xs H Q => (∃ i, xs = [.int i] ∧ Q (.int i) H) ∨ ∃ k, xs = [.bl k] ∧ Q (.int (if k then 1 else 0)) H) [.bool i] (.int (if i then 1 else 0)) := fun k h vs s r Q q => .inr ⟨i, (DqAll.bools (ns := [i]) r), q _ k h (.refl s) (.int _)⟩
theorem ca_min2 {i j : Int} : CaD (fun xs H Q => ∃ i j, xs = [.int i, .int j] ∧ Q (.int (if j < i then j else i)) H) [.int i, .int j] (.int (if j < i then j else i)) := fun k h vs s r Q q => ⟨i, j, (DqAll.ints (ns := [i, j]) r), q _ k h (.refl s) (.int _)⟩
theorem ca_max2 {i j : Int} : CaD (fun xs H Q => ∃ i j, xs = [.int i, .int j] ∧ Q (.int (if j > i then j else i)) H) [.int i, .int j] (.int (if j > i then j else i)) := fun k h vs s r Q q => ⟨i, j, (DqAll.ints (ns := [i, j]) r), q _ k h (.refl s) (.int _)⟩
theorem DqAll.one_inv {k : Hp} {vs : List V} {d : PyData} (h : DqAll k vs [d]) : ∃ v, vs = [v] ∧ Dq k v d := by
  cases h with
  | cons h1 h2 => cases h2; exact ⟨_, rfl, h1⟩
theorem ca_lenL : CaD (fun xs H Q => ∃ p ys, xs = [.ref p] ∧ (SqL K H p ys ∨ SqT K H p ys) ∧ Q (.int ys.length) H) [.list ds] (.int ds.length) := fun k h vs s r Q q => by
  obtain ⟨v, rfl, rv⟩ := r.one_inv
  obtain ⟨p, xs, rfl, e2, r⟩ := rv.list_inv
  exact ⟨p, xs, rfl, .inl (.inl (.inl (s _ _ e2))), by rw [r.length]; exact q _ k h (.refl s) (.int _)⟩
theorem ca_lenT : CaD (fun xs H Q => ∃ p ys, xs = [.ref p] ∧ (SqL K H p ys ∨ SqT K H p ys) ∧ Q (.int ys.length) H) [.tuple ds] (.int ds.length) := fun k h vs s r Q q => by
  obtain ⟨v, rfl, rv⟩ := r.one_inv
  obtain ⟨p, xs, rfl, e2, r⟩ := rv.tuple_inv
  exact ⟨p, xs, rfl, .inr (.inl (.inl (s _ _ e2))), by rw [r.length]; exact q _ k h (.refl s) (.int _)⟩
theorem ca_lenS {z : Str} (hz : z.length ≤ 1000) : CaD (fun xs H Q => ∃ z, xs = [.str z] ∧ z.length ≤ sizeLine ∧ Q (.int z.length) H) [.str z] (.int z.length) := fun k h vs s r Q q => by
  obtain ⟨v, rfl, rv⟩ := r.one_inv
  exact ⟨z, by rw [rv.str_inv], Nat.le_trans hz (by decide), q _ k h (.refl s) (.int _)⟩
/-- tuple(a list) -/
theorem ca_tuple : CaD (fun xs H Q => ∃ p ys, xs = [.ref p] ∧ ((SqL K H p ys ∧ ∀ l, H l = none → Q (.ref l) (upd H l (.tup ys))) ∨ (SqT K H p ys ∧ Q (.ref p) H))) [.list ds] (.tuple ds) := fun k h vs s r Q q => by
  obtain ⟨v, rfl, rv⟩ := r.one_inv
  obtain ⟨p, xs, rfl, e2, r⟩ := rv.list_inv
  exact ⟨p, xs, rfl, .inl ⟨.inl (.inl (s _ _ e2)), fun c n => q _ _ _ (.new s n) (.tup upd_same (r.mono (same_new (s.free n))))⟩⟩
theorem ca_any {bs : List Bool} : CaD (rAny K) [.list (bs.map PyData.bool)] (.bool (bs.any id)) := fun k h vs s r Q q => by
  obtain ⟨v, rfl, rv⟩ := r.one_inv
  obtain ⟨p, xs, rfl, e2, r⟩ := rv.list_inv
  have e := r.bools
  subst e
  exact ⟨p, bs, rfl, .inl (.inl (s _ _ e2)), q _ k h (.refl s) (.bl _)⟩
theorem ca_all {bs : List Bool} : CaD (rAll K) [.list (bs.map PyData.bool)] (.bool (bs.all id)) := fun k h vs s r Q q => by
  obtain ⟨v, rfl, rv⟩ := r.one_inv
  obtain ⟨p, xs, rfl, e2, r⟩ := rv.list_inv
  have e := r.bools
  subst e
  exact ⟨p, bs, rfl, .inl (.inl (s _ _ e2)), q _ k h (.refl s) (.bl _)⟩
/-- min, max of a list that isn't empty: the one that is least -/
theorem ca_min {ns : List Int} {m : Int} (h0 : m ∈ ns) (hm : ∀ y ∈ ns, m ≤ y) : CaD (rMin K) [.list (ns.map PyData.int)] (.int m) := fun k h vs s r Q q => by
  obtain ⟨v, rfl, rv⟩ := r.one_inv
  obtain ⟨p, xs, rfl, e2, r⟩ := rv.list_inv
  have e := r.ints
  subst e
  refine ⟨p, ns, rfl, .inl (.inl (s _ _ e2)), List.length_pos_of_mem h0, fun m' h1 h2 => ?_⟩
  have : m' = m := Int.le_antisymm (h2 m h0) (hm m' h1)
  rw [this]
  exact q _ k h (.refl s) (.int _)
theorem ca_max {ns : List Int} {m : Int} (h0 : m ∈ ns) (hm : ∀ y ∈ ns, y ≤ m) : CaD (rMax K) [.list (ns.map PyData.int)] (.int m) := fun k h vs s r Q q => by
  obtain ⟨v, rfl, rv⟩ := r.one_inv
  obtain ⟨p, xs, rfl, e2, r⟩ := rv.list_inv
  have e := r.ints
  subst e
  refine ⟨p, ns, rfl, .inl (.inl (s _ _ e2)), List.length_pos_of_mem h0, fun m' h1 h2 => ?_⟩
  have : m' = m := Int.le_antisymm (hm m' h1) (h2 m h0)
  rw [this]
  exact q _ k h (.refl s) (.int _)
/-- slices of known lists, tuples -/
def EvO (t : TO) (Γ : Ge) (o : Option Int) : Prop := ∀ k h σ, Same k h → Env k h σ Γ → ∀ Q : Option Int → Hp → Prop, (∀ h', Same h h' → Q o h') → t σ h Q
theorem eo_none : EvO tNoPart Γ none := fun k h σ s E Q q => q h (.refl h)
theorem eo_some {i : Int} (h : EvD te Γ (.int i)) : EvO (tPart te) Γ (some i) := fun k hp σ s E Q q => h k hp σ s E _ fun v k' h' l r => ⟨i, r.int_inv, q h' l.same⟩
def cutD (xs : List PyData) (lo hi : Option Int) : List PyData := (xs.drop (HT.sIx xs.length 0 lo)).take (HT.sIx xs.length xs.length hi - HT.sIx xs.length 0 lo)
theorem DqAll.cut {k : Hp} {xs : List V} (r : DqAll k xs ds) (lo hi : Option Int) : DqAll k (cutV xs lo hi) (cutD ds lo hi) := by
  unfold cutV cutD
  rw [r.length]
  exact (r.drop _).take _
theorem ev_slT {tl th : TO} {lo hi : Option Int} (h : EvD te Γ (.tuple ds)) (h1 : EvO tl Γ lo) (h2 : EvO th Γ hi) : EvD (tSl (rSlA K) te tl th) Γ (.tuple (cutD ds lo hi)) := fun k hp σ s E Q q =>
  h k hp σ s E _ fun v k1 h1' l1 rv => h1 k1 h1' σ l1.kh (E.le l1) _ fun h2' g2 => h2 k1 h2' σ (l1.kh.trans g2) ((E.le l1).le (Le.grow l1.kh g2)) _ fun h3 g3 => by
    have l : Le k hp k1 h3 := l1.trans (Le.grow l1.kh (g2.trans g3))
    obtain ⟨p, xs, rfl, e2, r⟩ := rv.tuple_inv
    refine ⟨p, xs, rfl, .inl (.inl (l.kh _ _ e2)), fun z => ?_, fun _ c n => q _ _ _ (l.trans (Le.new l.kh n)) (.tup upd_same ((r.cut lo hi).mono (same_new (l.kh.free n))))⟩
    have ec : cutD ds lo hi = ds := by
      unfold cutD
      rw [← r.length, z.1, z.2, r.length]
      show List.take (ds.length - 0) ds = ds
      rw [Nat.sub_zero, List.take_length]
    rw [ec] at q
    exact q _ k1 h3 l (.tup e2 r)
theorem ev_rev (h : EvD te Γ (.list ds)) : EvD (tRevL K te) Γ (.list ds.reverse) := fun k hp σ s E Q q => h k hp σ s E _ fun v k1 h1 l1 rv => by
  obtain ⟨p, xs, rfl, e2, r⟩ := rv.list_inv
  exact ⟨p, xs, rfl, .inl (.inl (l1.kh _ _ e2)), fun c n => q _ _ _ (l1.trans (Le.new l1.kh n)) (.lst upd_same (r.reverse.mono (same_new (l1.kh.free n))))⟩
/-- x in a list of numbers; data in a list -/
theorem inV_ints (i : Int) (ns : List Int) : inV (.int i) (ns.map V.int) = decide (i ∈ ns) := by
  unfold inV
  induction ns with
  | nil => rfl
  | cons n r ih =>
    rw [List.map_cons, List.any_cons, ih]
    by_cases e : i = n
    · subst e
      have : eqV (V.int i) (V.int i) = true := by simp [eqV]
      rw [this, Bool.true_or]
      exact (decide_eq_true List.mem_cons_self).symm
    · have : eqV (V.int n) (V.int i) = false := by simp [eqV, Ne.symm e]
      rw [this, Bool.false_or]
      exact decide_eq_decide.mpr ⟨List.mem_cons_of_mem _, fun z => (List.mem_cons.mp z).elim (fun q => absurd q e) id⟩
theorem op_inI {i : Int} {ns : List Int} : OpD (rIn K false) (.int i) (.list (ns.map PyData.int)) (.bool (decide (i ∈ ns))) := fun k h x y s rx ry Q q => by
  obtain ⟨p, xs, e1, e2, r⟩ := ry.list_inv
  have e := r.ints
  subst e
  rw [rx.int_inv]
  refine ⟨p, _, e1, .inl (.inl (.inl (s _ _ e2))), rfl, ?_, ?_⟩
  · rw [List.all_map]; exact List.all_eq_true.mpr fun _ _ => rfl
  · show Q (.bl (inV (.int i) (ns.map V.int))) h
    rw [inV_ints]
    exact q _ k h (.refl s) (.bl _)
theorem op_inD' (ha : SeqAt.shaped a = true) (hb : SeqAt.shaped (.list ds) = true) : OpD (rInD K) a (.list ds) (.bool (ds.any fun z => PyData.eqv z a)) := fun k h x y s rx ry Q q =>
  ⟨a, ds, (rx.mono s).dp K, (ry.mono s).dp K, ha, hb, q _ k h (.refl s) (.bl _)⟩
end
end Bx
namespace Bx
open PySem PySem.Spec L2

/-! ### statements -/
def OwnOk (M : Addr → Prop) (h0 : Hp) : Sl → Option V → Prop
  | .mu _, v => ∀ p, v = some (.ref p) → h0 p = none
  | .hp a c, _ => M a ∧ M c
  | _, _ => True
def OwnM (M : Addr → Prop) (h0 : Hp) (σ : St) (Γ : Ge) : Prop := ∀ (i : Nat) s v, Γ[i]? = some s → σ[i]? = some v → OwnOk M h0 s v
/-- what is wanted behind a statement -/
structure Pst where
  nx : Ge → Prop := fun _ => False
  rt : Ge → PyData → Prop := fun _ _ => False
  bk : Ge → Prop := fun _ => False
  ct : Ge → Prop := fun _ => False
structure Pos (M : Addr → Prop) (k0 h0 : Hp) (D : Ends) (P : Pst) : Prop where
  nx : ∀ Γ k h σ, P.nx Γ → LeM M k0 h0 k h → OwnM M h0 σ Γ → Env k h σ Γ → D.nx σ h
  rt : ∀ Γ d v k h σ, P.rt Γ d → LeM M k0 h0 k h → OwnM M h0 σ Γ → Env k h σ Γ → Dq k v d → D.rt v h
  bk : ∀ Γ k h σ, P.bk Γ → LeM M k0 h0 k h → OwnM M h0 σ Γ → Env k h σ Γ → D.bk σ h
  ct : ∀ Γ k h σ, P.ct Γ → LeM M k0 h0 k h → OwnM M h0 σ Γ → Env k h σ Γ → D.ct σ h
def Run (t : TS) (Γ : Ge) (P : Pst) : Prop := ∀ M k0 h0 k h σ, LeM M k0 h0 k h → OwnM M h0 σ Γ → Env k h σ Γ → ∀ D : Ends, Pos M k0 h0 D P → t D σ h

/-- stateful: only the draws' heap may change -/
def HpIn (M : Addr → Prop) (Γ : Ge) : Prop := ∀ (i : Nat) a c, Γ[i]? = some (.hp a c) → M a ∧ M c
def EvS (A : Prop) (te : TE) (Γ : Ge) (S : PyData → Prop) : Prop := ∀ M k h σ, Same k h → Env k h σ Γ → (A → HpIn M Γ) → ∀ Q : VK, (∀ v d k' h', LeM M k h k' h' → Env k' h' σ Γ → S d → Dq k' v d → Q v h') → te σ h Q
def EvSA (A : Prop) (t : TA) (Γ : Ge) (S : List PyData → Prop) : Prop := ∀ M k h σ, Same k h → Env k h σ Γ → (A → HpIn M Γ) → ∀ Q : List V → Hp → Prop, (∀ vs ds k' h', LeM M k h k' h' → Env k' h' σ Γ → S ds → DqAll k' vs ds → Q vs h') → t σ h Q
def EvST (A : Prop) (t : TT) (Γ : Ge) (S : Bool → Prop) : Prop := ∀ M k h σ, Same k h → Env k h σ Γ → (A → HpIn M Γ) → ∀ Q : Bool → Hp → Prop, (∀ b k' h', LeM M k h k' h' → Env k' h' σ Γ → S b → Q b h') → t σ h Q
def EvSL (A : Prop) (te : TE) (Γ : Ge) (S : List PyData → Prop) : Prop := ∀ M k h σ, Same k h → Env k h σ Γ → (A → HpIn M Γ) → ∀ Q : VK,
  (∀ p xs ds k' h', LeM M k h k' h' → Env k' h' σ Γ → h p = none → k' p = none → h' p = some (.lst xs) → S ds → DqAll k' xs ds → Q (.ref p) h') → te σ h Q

section
variable {A : Prop} {Γ : Ge} {ta tb te tc : TE} {t u : TT} {a b d : PyData} {ds es : List PyData} {targ : TA} {K : PySem.W.Frag} {ts tw : TS} {P : Pst} {g : TG}
theorem evs_d {S : PyData → Prop} (h : EvD te Γ d) (w : S d) : EvS A te Γ S := fun M k hp σ s E _ Q q => h k hp σ s E Q fun v k' h' l r => q v d k' h' l.any (E.le l) w r
theorem evst_t {S : Bool → Prop} {c : Bool} (h : EvT t Γ c) (w : S c) : EvST A t Γ S := fun M k hp σ s E _ Q q => h k hp σ s E Q fun h' g => q c k h' (Le.any (.grow s g)) (E.le (Le.grow s g)) w
theorem evs_imp {S S' : PyData → Prop} (h : EvS A te Γ S) (w : ∀ d, S d → S' d) : EvS A te Γ S' := fun M k hp σ s E m Q q => h M k hp σ s E m Q fun v d k' h' l e z r => q v d k' h' l e (w d z) r
theorem esa_nil {S : List PyData → Prop} (w : S []) : EvSA A tNil Γ S := fun M k h σ s E _ Q q => q [] [] k h (.refl s) E w .nil
theorem esa_cons {S : List PyData → Prop} (ha : EvS A ta Γ fun d => EvSA A targ Γ fun ds => S (d :: ds)) : EvSA A (tCons ta targ) Γ S := fun M k h σ s E m Q q =>
  ha M k h σ s E m _ fun v d k1 h1 l1 E1 w r => w M k1 h1 σ l1.kh E1 m _ fun vs ds k2 h2 l2 E2 w2 r2 => q _ _ k2 h2 (l1.trans l2) E2 w2 (.cons (r.mono l2.kk) r2)
theorem esl_d {S : PyData → Prop} (h : EvSL A te Γ fun ds => S (.list ds)) : EvS A te Γ S := fun M k hp σ s E m Q q => h M k hp σ s E m Q fun p xs ds k' h' l E' n n' z w r => by
  have E2 : Le k' h' (upd k' p (.lst xs)) h' → Env (upd k' p (.lst xs)) h' σ Γ := fun le => E'.le le
  have own : ∀ (i : Nat) s v, Γ[i]? = some s → σ[i]? = some v → ¬ Owns s v p := fun i s v e1 e2 ow => by
    obtain ⟨v', e3, ok⟩ := E.ok i s e1
    rw [e2] at e3; cases e3
    exact (Owns.here ok ow).1 n
  have up : LeM M k hp (upd k' p (.lst xs)) h' := ⟨l.kk.trans (same_new n'), l.hh, fun x u y => by
      by_cases hb : x = p
      · subst hb; rw [upd_same] at y; cases y; exact z
      · rw [upd_ne hb] at y; exact l.kh x u y, fun x y w => by
      have : x ≠ p := fun q => y (by rw [q]; exact n)
      rw [upd_ne this]; exact l.sp x y w, l.al⟩
  refine q _ (.list ds) (upd k' p (.lst xs)) h' up ⟨E'.len, fun i s e => ?_, E'.own⟩ w (.lst upd_same (r.mono (same_new n')))
  obtain ⟨v, e1, ok⟩ := E'.ok i s e
  refine ⟨v, e1, ?_⟩
  cases s with
  | non => trivial
  | dat d => obtain ⟨u, e2, r2⟩ := ok; exact ⟨u, e2, r2.mono (same_new n')⟩
  | mu ds' =>
    obtain ⟨q, ys, e2, n2, z2, r2⟩ := ok
    have : q ≠ p := fun e9 => own i _ v e e1 (by subst e9; exact e2)
    exact ⟨q, ys, e2, by rw [upd_ne this]; exact n2, z2, r2.mono (same_new n')⟩
  | hp a c =>
    obtain ⟨e2, ⟨hs, ka, kc, ac⟩⟩ := ok
    have ha : a ≠ p := fun e3 => own i _ v e e1 (.inl e3.symm)
    have hc : c ≠ p := fun e3 => own i _ v e e1 (.inr e3.symm)
    exact ⟨e2, ⟨hs, by rw [upd_ne ha]; exact ka, by rw [upd_ne hc]; exact kc, ac⟩⟩
theorem own_any {M : Addr → Prop} {h0 : Hp} {σ : St} (o : OwnM M h0 σ Γ) : HpIn (fun p => h0 p = none ∨ M p) Γ → True := fun _ => trivial
theorem own_hp {M : Addr → Prop} {h0 : Hp} {k h : Hp} {σ : St} (o : OwnM M h0 σ Γ) (E : Env k h σ Γ) : HpIn (fun p => h0 p = none ∨ M p) Γ := fun i a c e => by
  obtain ⟨v, e1, _⟩ := E.ok i _ e
  have := o i _ v e e1
  exact ⟨.inr this.1, .inr this.2⟩
theorem LeM.behind {M : Addr → Prop} {k0 h0 k h k' h' : Hp} (a : LeM M k0 h0 k h) (b : LeM (fun p => h0 p = none ∨ M p) k h k' h') : LeM M k0 h0 k' h' :=
  ⟨a.kk.trans b.kk, fun x o n z => b.hh x o (fun m => m.elim (fun q => by rw [q] at z; cases z) n) (a.hh x o n z), b.kh, fun x n z => b.sp x (a.al x n) (a.sp x n z), fun x n => b.al x (a.al x n)⟩
theorem LeM.then {M : Addr → Prop} {k0 h0 k h k' h' : Hp} (a : LeM M k0 h0 k h) (b : Le k h k' h') : LeM M k0 h0 k' h' := a.trans b.any

theorem run_imp {P' : Pst} (h : Run ts Γ P) (n : ∀ Γ, P.nx Γ → P'.nx Γ) (r : ∀ Γ d, P.rt Γ d → P'.rt Γ d) (b : ∀ Γ, P.bk Γ → P'.bk Γ) (c : ∀ Γ, P.ct Γ → P'.ct Γ) : Run ts Γ P' := fun M k0 h0 k hp σ l o E D q =>
  h M k0 h0 k hp σ l o E D ⟨fun Γ k h σ w => q.nx Γ k h σ (n Γ w), fun Γ d v k h σ w => q.rt Γ d v k h σ (r Γ d w), fun Γ k h σ w => q.bk Γ k h σ (b Γ w), fun Γ k h σ w => q.ct Γ k h σ (c Γ w)⟩
theorem run_seq (h : Run ts Γ { P with nx := fun Γ' => Run tw Γ' P }) : Run (tSeq ts tw) Γ P := fun M k0 h0 k hp σ l o E D q =>
  h M k0 h0 k hp σ l o E { D with nx := tw D } ⟨fun Γ' k' h' σ' w l' o' E' => w M k0 h0 k' h' σ' l' o' E' D q, q.rt, q.bk, q.ct⟩
theorem run_next (h : P.nx Γ) : Run tNext Γ P := fun M k0 h0 k hp σ l o E D q => q.nx Γ k hp σ h l o E
theorem run_ret (h : EvD te Γ d) (w : P.rt Γ d) : Run (tRet te) Γ P := fun M k0 h0 k hp σ l o E D q =>
  h k hp σ l.kh E D.rt fun v k' h' l' r => q.rt Γ d v k' h' σ w (l.then l') o (E.le l') r
theorem run_retS (h : EvS A te Γ (P.rt Γ)) : Run (tRet te) Γ P := fun M k0 h0 k hp σ l o E D q =>
  h _ k hp σ l.kh E (fun _ => own_hp o E) D.rt fun v d k' h' l' E' w r => q.rt Γ d v k' h' σ w (l.behind l') o E' r
theorem own_set {M : Addr → Prop} {h0 : Hp} {σ : St} (o : OwnM M h0 σ Γ) (i : Nat) (v : Option V) (s : Sl) (hs : OwnOk M h0 s v) : OwnM M h0 (σ.set i v) (Γ.set i s) := fun j s' v' e1 e2 => by
  by_cases hj : i = j
  · subst hj
    by_cases hl : i < Γ.length
    · rw [List.getElem?_set_self hl] at e1; cases e1
      by_cases hk : i < σ.length
      · rw [List.getElem?_set_self hk] at e2; cases e2; exact hs
      · rw [List.getElem?_eq_none (by rw [List.length_set]; omega)] at e2; cases e2
    · rw [List.getElem?_eq_none (by rw [List.length_set]; omega)] at e1; cases e1
  · rw [List.getElem?_set_ne hj] at e1 e2
    exact o j s' v' e1 e2
theorem run_set {i : Nat} (h : EvD te Γ d) (w : P.nx (Γ.set i (.dat d))) : Run (tAsg te (gName i)) Γ P := fun M k0 h0 k hp σ l o E D q =>
  h k hp σ l.kh E _ fun v k' h' l' r => q.nx _ k' h' _ w (l.then l') (own_set o i _ _ trivial) ((E.le l').setD i r)
theorem run_setS {i : Nat} (h : EvS A te Γ fun d => P.nx (Γ.set i (.dat d))) : Run (tAsg te (gName i)) Γ P := fun M k0 h0 k hp σ l o E D q =>
  h _ k hp σ l.kh E (fun _ => own_hp o E) _ fun v d k' h' l' E' w r => q.nx _ k' h' _ w (l.behind l') (own_set o i _ _ trivial) (E'.setD i r)
theorem env_mu {k h k' h' : Hp} {σ : St} {p : Addr} {xs : List V} (E : Env k h σ Γ) (E' : Env k' h' σ Γ) (i : Nat) (n : h p = none) (n' : k' p = none) (z : h' p = some (.lst xs)) (r : DqAll k' xs ds) : Env k' h' (σ.set i (some (.ref p))) (Γ.set i (.mu ds)) :=
  E'.setM i n' z r fun j s v e1 e2 ow => by
    obtain ⟨v', e3, ok⟩ := E.ok j s e1
    rw [e2] at e3; cases e3
    exact (Owns.here ok ow).1 n
theorem back_none {M : Addr → Prop} {k0 h0 k h : Hp} {p : Addr} (l : LeM M k0 h0 k h) (n : h p = none) : h0 p = none := by
  cases q : h0 p with
  | none => rfl
  | some o => exact absurd n (l.al p (ne_none_of q))
theorem run_setM {i : Nat} (h : EvL te Γ ds) (w : P.nx (Γ.set i (.mu ds))) : Run (tAsg te (gName i)) Γ P := fun M k0 h0 k hp σ l o E D q =>
  h k hp σ l.kh E _ fun p xs k' h' l' n n' z r => q.nx _ k' h' _ w (l.then l') (own_set o i _ _ fun c e => by cases e; exact back_none l n) (env_mu E (E.le l') i n n' z r)
theorem run_setSM {i : Nat} (h : EvSL A te Γ fun ds => P.nx (Γ.set i (.mu ds))) : Run (tAsg te (gName i)) Γ P := fun M k0 h0 k hp σ l o E D q =>
  h _ k hp σ l.kh E (fun _ => own_hp o E) _ fun p xs ds k' h' l' E' n n' z w r => q.nx _ k' h' _ w (l.behind l') (own_set o i _ _ fun c e => by cases e; exact back_none l n) (env_mu E E' i n n' z r)
theorem run_if {c : Bool} (h : EvT t Γ c) (h1 : c = true → Run ts Γ P) (h2 : c = false → Run tw Γ P) : Run (tIfS t ts tw) Γ P := fun M k0 h0 k hp σ l o E D q =>
  h k hp σ l.kh E _ fun h' g => by
    have le : Le k hp k h' := .grow l.kh g
    cases c with
    | true => exact h1 rfl M k0 h0 k h' σ (l.then le) o (E.le le) D q
    | false => exact h2 rfl M k0 h0 k h' σ (l.then le) o (E.le le) D q
theorem run_if0 {c : Bool} (h : EvT t Γ c) (e : c = false) (h2 : Run tw Γ P) : Run (tIfS t ts tw) Γ P := run_if h (fun z => by rw [e] at z; cases z) fun _ => h2
theorem run_if1 {c : Bool} (h : EvT t Γ c) (e : c = true) (h1 : Run ts Γ P) : Run (tIfS t ts tw) Γ P := run_if h (fun _ => h1) fun z => by rw [e] at z; cases z
theorem run_drop (h : EvD te Γ d) (w : P.nx Γ) : Run (tDrop te) Γ P := fun M k0 h0 k hp σ l o E D q => h k hp σ l.kh E _ fun v k' h' l' r => q.nx _ k' h' _ w (l.then l') o (E.le l')

/-! ### a def's own list that changes -/
theorem mu_get {k h : Hp} {σ : St} {j : Nat} (E : Env k h σ Γ) (e : Γ[j]? = some (.mu ds)) : ∃ p xs, σ[j]? = some (some (.ref p)) ∧ k p = none ∧ h p = some (.lst xs) ∧ DqAll k xs ds := by
  obtain ⟨v, e1, p, xs, e2, n, z, r⟩ := E.ok j _ e
  exact ⟨p, xs, by rw [e1, e2], n, z, r⟩
theorem env_write {k h : Hp} {σ : St} {j : Nat} {p : Addr} {ys : List V} (E : Env k h σ Γ) (e : Γ[j]? = some (.mu ds)) (e1 : σ[j]? = some (some (.ref p))) (n : k p = none) (r : DqAll k ys es) : Env k (upd h p (.lst ys)) σ (Γ.set j (.mu es)) where
  len := by rw [List.length_set]; exact E.len
  ok := fun i s e' => by
    by_cases hj : j = i
    · subst hj
      have hl : j < Γ.length := (List.getElem?_eq_some_iff.mp e).1
      rw [List.getElem?_set_self hl] at e'; cases e'
      exact ⟨_, e1, p, ys, rfl, n, upd_same, r⟩
    · rw [List.getElem?_set_ne hj] at e'
      obtain ⟨v, e2, ok⟩ := E.ok i s e'
      have no : ∀ q, Owns s v q → q ≠ p := fun q ow z => by subst z; exact E.own j i _ s _ v hj e e' e1 e2 q rfl ow
      refine ⟨v, e2, ?_⟩
      cases s with
      | non => trivial
      | dat d => exact ok
      | mu ds' => obtain ⟨q, zs, e3, n3, z3, r3⟩ := ok; exact ⟨q, zs, e3, n3, by rw [upd_ne (no q e3)]; exact z3, r3⟩
      | hp a c =>
        obtain ⟨e3, ⟨cs, z, h1, h2, h3⟩, ka, kc, ac⟩ := ok
        exact ⟨e3, ⟨cs, z, by rw [upd_ne (no a (.inl rfl))]; exact h1, by rw [upd_ne (no c (.inr rfl))]; exact h2, h3⟩, ka, kc, ac⟩
  own := fun a b s t v u ab e1' e2' f1 f2 q w1 w2 => by
    have old : ∀ {i s v q}, (Γ.set j (.mu es))[i]? = some s → σ[i]? = some v → Owns s v q → ∃ s', Γ[i]? = some s' ∧ Owns s' v q := fun {i s v q} x y w => by
      by_cases hj : j = i
      · subst hj
        have hl : j < Γ.length := (List.getElem?_eq_some_iff.mp e).1
        rw [List.getElem?_set_self hl] at x; cases x
        exact ⟨_, e, w⟩
      · rw [List.getElem?_set_ne hj] at x; exact ⟨s, x, w⟩
    obtain ⟨s', x1, w1'⟩ := old e1' f1 w1
    obtain ⟨t', x2, w2'⟩ := old e2' f2 w2
    exact E.own a b s' t' v u ab x1 x2 f1 f2 q w1' w2'
theorem le_write {M : Addr → Prop} {k0 h0 k h : Hp} {p : Addr} {o : HO} (l : LeM M k0 h0 k h) (n : h0 p = none) (nk : k p = none) : LeM M k0 h0 k (upd h p o) :=
  ⟨l.kk, fun x u m z => by rw [upd_ne (ne_of_none z n)]; exact l.hh x u m z, fun x u z => by rw [upd_ne (ne_of_none z nk)]; exact l.kh x u z, l.sp, fun x z => by
    have : x ≠ p := fun q => z (by rw [q]; exact n)
    rw [upd_ne this]; exact l.al x z⟩
theorem own_mu {M : Addr → Prop} {h0 : Hp} {σ : St} {j : Nat} {p : Addr} (o : OwnM M h0 σ Γ) (e : Γ[j]? = some (.mu ds)) (e1 : σ[j]? = some (some (.ref p))) : h0 p = none := o j _ _ e e1 p rfl
theorem own_mus {M : Addr → Prop} {h0 : Hp} {σ : St} {j : Nat} (o : OwnM M h0 σ Γ) (e : Γ[j]? = some (.mu ds)) : OwnM M h0 σ (Γ.set j (.mu es)) := fun i s v e1 e2 => by
  by_cases hj : j = i
  · subst hj
    rw [List.getElem?_set_self (List.getElem?_eq_some_iff.mp e).1] at e1; cases e1
    have w : OwnOk M h0 (.mu ds) v := o j _ v e e2
    exact w
  · rw [List.getElem?_set_ne hj] at e1; exact o i s v e1 e2
/-- xs.append(e) -/
theorem run_app {j : Nat} (e : Γ[j]? = some (.mu ds)) (h : EvS A te Γ fun d => P.nx (Γ.set j (.mu (ds ++ [d])))) (hl : ds.length ≤ 1000) : Run (tDrop (tBM K "list" rAppend (tVar j) (tCons te tNil))) Γ P := fun M k0 h0 k hp σ l o E D q => by
  obtain ⟨p, xs, e1, n, z, r⟩ := mu_get E e
  refine ⟨.ref p, e1, .inl ⟨rfl, xs, .inl (.inl z)⟩, ?_⟩
  refine h _ k hp σ l.kh E (fun _ => own_hp o E) _ fun v d k' h' l' E' w rv => ?_
  obtain ⟨p', xs', e1', n', z', r'⟩ := mu_get E' e
  rw [e1] at e1'
  have ep : p = p' := V.ref.inj (Option.some.inj (Option.some.inj e1'))
  subst ep
  refine ⟨p, xs', v, rfl, rfl, z', by rw [r'.length]; exact Nat.lt_of_le_of_lt hl (by decide), ?_⟩
  exact q.nx _ k' _ σ w (le_write (l.behind l') (own_mu o e e1) n') (own_mus o e) (env_write E' e e1 n' (r'.append (.one rv)))
/-- xs[i] = e -/
theorem run_setAt {j i : Nat} (e : Γ[j]? = some (.mu ds)) (h : EvS A te Γ fun d => P.nx (Γ.set j (.mu (ds.set i d)))) (hi : EvD tb Γ (.int (i : Nat))) (hl : i < ds.length) : Run (tAsg te (gSub (tVar j) tb rSetL)) Γ P := fun M k0 h0 k hp σ l o E D q => by
  obtain ⟨p, xs, e1, n, z, r⟩ := mu_get E e
  refine h _ k hp σ l.kh E (fun _ => own_hp o E) _ fun v d k' h' l' E' w rv => ?_
  refine ⟨.ref p, e1, ?_⟩
  refine hi k' h' σ l'.kh E' _ fun x k2 h2 l2 rx => ?_
  have E2 := E'.le l2
  obtain ⟨p', xs', e1', n', z', r'⟩ := mu_get E2 e
  rw [e1] at e1'
  have ep : p = p' := V.ref.inj (Option.some.inj (Option.some.inj e1'))
  subst ep
  refine ⟨p, xs', (i : Int), i, rfl, rx.int_inv, z', ?_, ?_⟩
  · unfold ixN
    rw [if_pos (by omega), if_pos (by rw [r'.length]; omega)]
    simp
  · exact q.nx _ k2 _ σ w (le_write ((l.behind l').then l2) (own_mu o e e1) n') (own_mus o e) (env_write E2 e e1 n' (r'.set (rv.mono l2.kk) i))
/-- xs[i] -/
theorem ev_ixM {j : Nat} {i : Int} (e : Γ[j]? = some (.mu ds)) (hb : EvD tb Γ (.int i)) (ha : atI ds i = some d) : EvD (tOp (rIxL K) (tVar j) tb) Γ d := fun k hp σ s E Q q => by
  obtain ⟨p, xs, e1, n, z, r⟩ := mu_get E e
  refine ⟨.ref p, e1, ?_⟩
  refine hb k hp σ s E _ fun x k2 h2 l2 rx => ?_
  obtain ⟨v, e3, rv⟩ := atI_got (r.mono l2.kk) ha
  exact ⟨p, xs, i, v, rfl, rx.int_inv, .inl (.inl (l2.same _ _ z)), e3, q v k2 h2 l2 rv⟩
/-- from here on it stands still -/
theorem env_freeze {k h : Hp} {σ : St} {j : Nat} {p : Addr} {xs : List V} (E : Env k h σ Γ) (e : Γ[j]? = some (.mu ds)) (e1 : σ[j]? = some (some (.ref p))) (n : k p = none) (z : h p = some (.lst xs)) (r : DqAll k xs ds) :
    Env (upd k p (.lst xs)) h σ (Γ.set j (.dat (.list ds))) where
  len := by rw [List.length_set]; exact E.len
  ok := fun i s e' => by
    by_cases hj : j = i
    · subst hj
      rw [List.getElem?_set_self (List.getElem?_eq_some_iff.mp e).1] at e'; cases e'
      exact ⟨_, e1, .ref p, rfl, .lst upd_same (r.mono (same_new n))⟩
    · rw [List.getElem?_set_ne hj] at e'
      obtain ⟨v, e2, ok⟩ := E.ok i s e'
      have no : ∀ q, Owns s v q → q ≠ p := fun q ow z => by subst z; exact E.own j i _ s _ v hj e e' e1 e2 q rfl ow
      refine ⟨v, e2, ?_⟩
      cases s with
      | non => trivial
      | dat d => obtain ⟨u, e3, r3⟩ := ok; exact ⟨u, e3, r3.mono (same_new n)⟩
      | mu ds' => obtain ⟨q, zs, e3, n3, z3, r3⟩ := ok; exact ⟨q, zs, e3, by rw [upd_ne (no q e3)]; exact n3, z3, r3.mono (same_new n)⟩
      | hp a c => obtain ⟨e3, hs, ka, kc, ac⟩ := ok; exact ⟨e3, hs, by rw [upd_ne (no a (.inl rfl))]; exact ka, by rw [upd_ne (no c (.inr rfl))]; exact kc, ac⟩
  own := fun a b s t v u ab e1' e2' f1 f2 q w1 w2 => by
    by_cases ha : j = a
    · subst ha
      rw [List.getElem?_set_self (List.getElem?_eq_some_iff.mp e).1] at e1'; cases e1'; exact w1
    · by_cases hb : j = b
      · subst hb
        rw [List.getElem?_set_self (List.getElem?_eq_some_iff.mp e).1] at e2'; cases e2'; exact w2
      · rw [List.getElem?_set_ne ha] at e1'
        rw [List.getElem?_set_ne hb] at e2'
        exact E.own a b s t v u ab e1' e2' f1 f2 q w1 w2
theorem run_freeze {j : Nat} (e : Γ[j]? = some (.mu ds)) (h : Run ts (Γ.set j (.dat (.list ds))) P) : Run ts Γ P := fun M k0 h0 k hp σ l o E D q => by
  obtain ⟨p, xs, e1, n, z, r⟩ := mu_get E e
  have np := own_mu o e e1
  refine h M k0 h0 (upd k p (.lst xs)) hp σ ⟨l.kk.trans (same_new n), l.hh, fun x u y => ?_, fun x y w => ?_, l.al⟩ (fun i s v e1' e2 => ?_) (env_freeze E e e1 n z r) D q
  · by_cases hb : x = p
    · subst hb; rw [upd_same] at y; cases y; exact z
    · rw [upd_ne hb] at y; exact l.kh x u y
  · have : x ≠ p := fun q => y (by rw [q]; exact np)
    rw [upd_ne this]; exact l.sp x y w
  · by_cases hj : j = i
    · subst hj
      rw [List.getElem?_set_self (List.getElem?_eq_some_iff.mp e).1] at e1'; cases e1'; trivial
    · rw [List.getElem?_set_ne hj] at e1'; exact o i s v e1' e2
theorem same_fz {k h : Hp} {p : Addr} {xs : List V} (s : Same k h) (z : h p = some (.lst xs)) : Same (upd k p (.lst xs)) h := fun x u y => by
  by_cases hb : x = p
  · subst hb; rw [upd_same] at y; cases y; exact z
  · rw [upd_ne hb] at y; exact s x u y
/-- for the while of a test -/
theorem et_freeze {j : Nat} {c : Bool} (e : Γ[j]? = some (.mu ds)) (h : EvT t (Γ.set j (.dat (.list ds))) c) : EvT t Γ c := fun k hp σ s E Q q => by
  obtain ⟨p, xs, e1, n, z, r⟩ := mu_get E e
  exact h (upd k p (.lst xs)) hp σ (same_fz s z) (env_freeze E e e1 n z r) Q q
/-- .. of a call that answers a bool -/
theorem ev_freeze {j : Nat} {c : Bool} (e : Γ[j]? = some (.mu ds)) (h : EvD te (Γ.set j (.dat (.list ds))) (.bool c)) : EvD te Γ (.bool c) := fun k hp σ s E Q q => by
  obtain ⟨p, xs, e1, n, z, r⟩ := mu_get E e
  refine h (upd k p (.lst xs)) hp σ (same_fz s z) (env_freeze E e e1 n z r) Q fun v k' h' l rv => ?_
  rw [rv.bool_inv]
  exact q _ k h' (.grow s l.same) (.bl c)
theorem evd_of (h : EvS False te Γ fun x => x = d) : EvD te Γ d := fun k hp σ s E Q q => h M0 k hp σ s E (fun z => z.elim) Q fun v d' k' h' l _ e r => q v k' h' l (e ▸ r)
theorem evl_of (h : EvSL False te Γ fun x => x = ds) : EvL te Γ ds := fun k hp σ s E Q q => h M0 k hp σ s E (fun z => z.elim) Q fun p xs ds' k' h' l _ n n' z e r => q p xs k' h' l n n' z (e ▸ r)
theorem esl_l {S : List PyData → Prop} (h : EvL te Γ ds) (w : S ds) : EvSL A te Γ S := fun M k hp σ s E _ Q q => h k hp σ s E Q fun p xs k' h' l n n' z r => q p xs ds k' h' l.any (E.le l) n n' z w r
end
end Bx
namespace Bx
open PySem PySem.Spec L2

/-! ### what is walked -/
structure IterOk (J : It) (k : Hp) (ds : List PyData) : Prop where
  go : ∀ (i : Nat) k' h', i < ds.length → Same k k' → Same k' h' → J.go i h'
  yld : ∀ (i : Nat) d k' h' x h2, ds[i]? = some d → Same k k' → Same k' h' → J.yld i h' x h2 → ∃ k2, Le k' h' k2 h2 ∧ Dq k2 x d
  stop : ∀ k' h', Same k k' → Same k' h' → J.stop ds.length h'
def EvI (wi : TI) (Γ : Ge) (ds : List PyData) : Prop := ∀ k h σ, Same k h → Env k h σ Γ → ∀ R : It → Hp → Prop, (∀ J k' h', Le k h k' h' → IterOk J k' ds → R J h') → wi σ h R
/-- a target: the slots js are set -/
structure EvG (g : TG) (d : PyData) (js : List Nat) (Γ Γ' : Ge) : Prop where
  run : ∀ k h σ v, Same k h → Env k h σ Γ → Dq k v d → ∀ Q : St → Hp → Prop, (∀ σ', Env k h σ' Γ' → σ'.length = σ.length → (∀ j : Nat, j ∉ js → σ'[j]? = σ[j]?) → Q σ' h) → g v σ h Q
  keep : ∀ j : Nat, j ∉ js → Γ'[j]? = Γ[j]?
  dat : ∀ (j : Nat) s, j ∈ js → Γ'[j]? = some s → ∃ d, s = .dat d
section
variable {A : Prop} {Γ Γ' Γ2 : Ge} {ta tb te tc : TE} {t u : TT} {a b d : PyData} {ds es : List PyData} {targ : TA} {K : PySem.W.Frag} {ts tw : TS} {P : Pst} {g : TG} {wi : TI}
theorem eg_name {i : Nat} : EvG (gName i) d [i] Γ (Γ.set i (.dat d)) where
  run := fun k h σ v s E r Q q => q _ (E.setD i r) (List.length_set ..) fun j hj => List.getElem?_set_ne fun e => hj (by simp [e])
  keep := fun j hj => List.getElem?_set_ne fun e => hj (by simp [e])
  dat := fun j s hj e => by
    have hj : j = i := by simpa using hj
    subst hj
    by_cases hl : j < Γ.length
    · rw [List.getElem?_set_self hl] at e; cases e; exact ⟨_, rfl⟩
    · rw [List.getElem?_eq_none (by rw [List.length_set]; omega)] at e; cases e
/-- targets in a row -/
structure EvGs (g : TGs) (ds : List PyData) (js : List Nat) (Γ Γ' : Ge) : Prop where
  run : ∀ k h σ vs, Same k h → Env k h σ Γ → DqAll k vs ds → ∀ Q : St → Hp → Prop, (∀ σ', Env k h σ' Γ' → σ'.length = σ.length → (∀ j : Nat, j ∉ js → σ'[j]? = σ[j]?) → Q σ' h) → g vs σ h Q
  keep : ∀ j : Nat, j ∉ js → Γ'[j]? = Γ[j]?
  dat : ∀ (j : Nat) s, j ∈ js → Γ'[j]? = some s → ∃ d, s = .dat d
theorem egs_nil : EvGs gNil [] [] Γ Γ where
  run := fun k h σ vs s E r Q q => by
    cases r
    exact ⟨rfl, q σ E rfl fun _ _ => rfl⟩
  keep := fun _ _ => rfl
  dat := fun _ _ h _ => by cases h
theorem egs_cons {gs : TGs} {js ks : List Nat} (h1 : EvG g d js Γ Γ') (h2 : EvGs gs ds ks Γ' Γ2) : EvGs (gCons g gs) (d :: ds) (js ++ ks) Γ Γ2 where
  run := fun k h σ vs s E r Q q => by
    cases r with
    | cons r1 r2 =>
      exact ⟨_, _, rfl, h1.run k h σ _ s E r1 _ fun σ1 E1 l1 k1 => h2.run k h σ1 _ s E1 r2 Q fun σ2 E2 l2 k2 => q σ2 E2 (l2.trans l1) fun j hj =>
        (k2 j fun z => hj (List.mem_append_right _ z)).trans (k1 j fun z => hj (List.mem_append_left _ z))⟩
  keep := fun j hj => (h2.keep j fun z => hj (List.mem_append_right _ z)).trans (h1.keep j fun z => hj (List.mem_append_left _ z))
  dat := fun j s hj e => by
    by_cases hk : j ∈ ks
    · exact h2.dat j s hk e
    · rw [h2.keep j hk] at e
      exact h1.dat j s ((List.mem_append.mp hj).elim id fun z => absurd z hk) e
theorem eg_tup {gs : TGs} {js : List Nat} {n : Nat} (hn : ds.length = n) (h : EvGs gs ds js Γ Γ') : EvG (gTup K n gs) (.tuple ds) js Γ Γ' where
  run := fun k hp σ v s E r Q q => by
    obtain ⟨p, xs, e1, e2, r2⟩ := r.tuple_inv
    exact ⟨p, xs, e1, .inl (.inl (s _ _ e2)), by rw [r2.length, hn], h.run k hp σ xs s E r2 Q q⟩
  keep := h.keep
  dat := h.dat
theorem EvG.own {M : Addr → Prop} {h0 : Hp} {σ σ' : St} {js : List Nat} (h : EvG g d js Γ Γ') (o : OwnM M h0 σ Γ) (k : ∀ j : Nat, j ∉ js → σ'[j]? = σ[j]?) : OwnM M h0 σ' Γ' := fun i s v e1 e2 => by
  by_cases hj : i ∈ js
  · obtain ⟨d, rfl⟩ := h.dat i s hj e1
    trivial
  · rw [h.keep i hj] at e1
    rw [k i hj] at e2
    exact o i s v e1 e2
/-- a, b = e -/
theorem run_asg {js : List Nat} (h : EvD te Γ d) (hg : EvG g d js Γ Γ') (w : P.nx Γ') : Run (tAsg te g) Γ P := fun M k0 h0 k hp σ l o E D q =>
  h k hp σ l.kh E _ fun v k' h' l' r => hg.run k' h' σ v l'.kh (E.le l') r D.nx fun σ' E' _ kk => q.nx _ k' h' σ' w (l.then l') (hg.own o kk) E'

/-! ### iterables -/
theorem ei_range1 {n : Int} (h : EvA targ Γ [.int n]) (h1 : 0 ≤ n) (h2 : n ≤ 100000) : EvI (iRng1 targ) Γ ((List.range n.toNat).map fun i => .int ((i : Nat) : Int)) := fun k hp σ s E R q =>
  h k hp σ s E _ fun vs k' h' l r => by
    obtain ⟨v, rfl, rv⟩ := r.one_inv
    refine ⟨n, by rw [rv.int_inv], by omega, by omega, q _ k' h' l ⟨fun i k2 h2 hi _ _ => ?_, fun i d k2 h2 x h3 e s1 s2 y => ?_, fun k2 h2 _ _ => ?_⟩⟩
    · rw [List.length_map, List.length_range] at hi; exact hi
    · obtain ⟨rfl, rfl⟩ := y
      have hi : i < n.toNat := by
        have := (List.getElem?_eq_some_iff.mp e).1
        rwa [List.length_map, List.length_range] at this
      rw [List.getElem?_map, List.getElem?_range hi] at e
      cases e
      rw [Int.zero_add]
      exact ⟨k2, .refl s2, .int _⟩
    · rw [List.length_map, List.length_range]; exact Nat.le_refl _
theorem itl_ok {p : Addr} {xs : List V} {k : Hp} (e : k p = some (.lst xs)) (r : DqAll k xs ds) (K : PySem.W.Frag) : IterOk (Itl K p) k ds where
  go := fun i k' h' hi s1 s2 => ⟨xs, xs[i]'(by rw [r.length]; exact hi), .inl (.inl (s2 _ _ (s1 _ _ e))), List.getElem?_eq_getElem _⟩
  yld := fun i d k' h' x h2 ed s1 s2 y => by
    obtain ⟨rfl, f⟩ := y
    obtain ⟨v, ev, rv⟩ := r.got ed
    have := f xs (.inl (.inl (s2 _ _ (s1 _ _ e))))
    rw [ev] at this; cases this
    exact ⟨k', .refl s2, rv.mono s1⟩
  stop := fun k' h' s1 s2 => ⟨xs, .inl (.inl (s2 _ _ (s1 _ _ e))), by rw [r.length]; exact Nat.le_refl _⟩
theorem itt_ok {p : Addr} {xs : List V} {k : Hp} (e : k p = some (.tup xs)) (r : DqAll k xs ds) (K : PySem.W.Frag) : IterOk (Itt K p) k ds where
  go := fun i k' h' hi s1 s2 => ⟨xs, xs[i]'(by rw [r.length]; exact hi), .inl (.inl (s2 _ _ (s1 _ _ e))), List.getElem?_eq_getElem _⟩
  yld := fun i d k' h' x h2 ed s1 s2 y => by
    obtain ⟨rfl, f⟩ := y
    obtain ⟨v, ev, rv⟩ := r.got ed
    have := f xs (.inl (.inl (s2 _ _ (s1 _ _ e))))
    rw [ev] at this; cases this
    exact ⟨k', .refl s2, rv.mono s1⟩
  stop := fun k' h' s1 s2 => ⟨xs, .inl (.inl (s2 _ _ (s1 _ _ e))), by rw [r.length]; exact Nat.le_refl _⟩
theorem ei_list (h : EvD te Γ (.list ds)) : EvI (iList K te) Γ ds := fun k hp σ s E R q => h k hp σ s E _ fun v k' h' l r => by
  obtain ⟨p, xs, e1, e2, r2⟩ := r.list_inv
  exact ⟨p, e1, ⟨xs, .inl (.inl (l.kh _ _ e2))⟩, q _ k' h' l (itl_ok e2 r2 K)⟩
theorem ei_tup (h : EvD te Γ (.tuple ds)) : EvI (iTup K te) Γ ds := fun k hp σ s E R q => h k hp σ s E _ fun v k' h' l r => by
  obtain ⟨p, xs, e1, e2, r2⟩ := r.tuple_inv
  exact ⟨p, e1, ⟨xs, .inl (.inl (l.kh _ _ e2))⟩, q _ k' h' l (itt_ok e2 r2 K)⟩
theorem DqAll.two_inv {k : Hp} {vs : List V} {d e : PyData} (h : DqAll k vs [d, e]) : ∃ v u, vs = [v, u] ∧ Dq k v d ∧ Dq k u e := by
  cases h with
  | cons h1 h2 =>
    obtain ⟨u, rfl, h3⟩ := h2.one_inv
    exact ⟨_, _, rfl, h1, h3⟩
/-- zip of two tuples -/
theorem ei_zip (h : EvA targ Γ [.tuple ds, .tuple es]) (hl : ds.length = es.length) : EvI (RZ.iZipA K targ) Γ ((ds.zip es).map fun p => .tuple [p.1, p.2]) := fun k hp σ s E R q => h k hp σ s E _ fun vs k' h' l r => by
  obtain ⟨v, u, rfl, r1, r2⟩ := r.two_inv
  obtain ⟨p, xs, rfl, e2, rx⟩ := r1.tuple_inv
  obtain ⟨p', ys, rfl, e2', ry⟩ := r2.tuple_inv
  have hz : ((ds.zip es).map fun p => (PyData.tuple [p.1, p.2])).length = ds.length := by rw [List.length_map, List.length_zip]; omega
  refine ⟨p, p', xs, ys, rfl, .inr ⟨.inl (.inl (l.kh _ _ e2)), .inl (.inl (l.kh _ _ e2')), q _ k' h' l ⟨fun i k2 h2 hi s1 s2 => ?_, fun i d k2 h2 x h3 e s1 s2 y => ?_, fun k2 h2 s1 s2 => ?_⟩⟩⟩
  · rw [hz] at hi
    exact ⟨xs, ys, xs[i]'(by rw [rx.length]; exact hi), ys[i]'(by rw [ry.length]; omega), .inl (.inl (s2 _ _ (s1 _ _ e2))), .inl (.inl (s2 _ _ (s1 _ _ e2'))), List.getElem?_eq_getElem _, List.getElem?_eq_getElem _⟩
  · obtain ⟨T, x1, y1, rfl, nT, rfl, f1, f2⟩ := y
    have hi : i < ds.length := by
      have := (List.getElem?_eq_some_iff.mp e).1
      rwa [hz] at this
    have e' : d = .tuple [ds[i]'hi, es[i]'(by omega)] := by
      rw [List.getElem?_map, List.getElem?_eq_getElem (by rw [List.length_zip]; omega)] at e
      rw [List.getElem_zip] at e
      exact (Option.some.inj e).symm
    subst e'
    obtain ⟨v1, g1, w1⟩ := rx.got (List.getElem?_eq_getElem hi)
    obtain ⟨v2, g2, w2⟩ := ry.got (List.getElem?_eq_getElem (show i < es.length by omega))
    have q1 : v1 = x1 := Option.some.inj (g1.symm.trans (f1 xs (.inl (.inl (s2 _ _ (s1 _ _ e2))))))
    have q2 : v2 = y1 := Option.some.inj (g2.symm.trans (f2 ys (.inl (.inl (s2 _ _ (s1 _ _ e2'))))))
    subst q1 q2
    have sn : Same k' (upd k2 T (.tup [v1, v2])) := s1.trans (same_new (s2.free nT))
    exact ⟨upd k2 T (.tup [v1, v2]), Le.new s2 nT, .tup upd_same (.cons (w1.mono sn) (.one (w2.mono sn)))⟩
  · exact ⟨xs, ys, .inl (.inl (s2 _ _ (s1 _ _ e2))), .inl (.inl (s2 _ _ (s1 _ _ e2'))), .inl (by rw [hz, rx.length]; exact Nat.le_refl _)⟩
theorem ei_str {z : Str} (h : EvD te Γ (.str z)) : EvI (iStr te) Γ (z.cps.toList.map fun c => .str ⟨#[c]⟩) := fun k hp σ s E R q => h k hp σ s E _ fun v k' h' l r => by
  refine ⟨z, r.str_inv, q _ k' h' l ⟨fun i k2 h2 hi _ _ => ?_, fun i d k2 h2 x h3 e s1 s2 y => ?_, fun k2 h2 _ _ => ?_⟩⟩
  · rw [List.length_map, Array.length_toList] at hi; exact hi
  · obtain ⟨rfl, c, ec, rfl⟩ := y
    rw [List.getElem?_map, Array.getElem?_toList, ec] at e
    cases e
    exact ⟨k2, .refl s2, .str _⟩
  · rw [List.length_map, Array.length_toList]; exact Nat.le_refl _

/-! ### for -/
theorem LeM.rebase {M : Addr → Prop} {k0 h0 k1 h1 k2 h2 : Hp} (a : LeM M k0 h0 k1 h1) (s : Same k1 k2) (b : LeM M k0 h0 k2 h2) : LeM M k1 h0 k2 h2 :=
  ⟨s, b.hh, b.kh, fun x n z => b.sp x n (a.kk.free z), b.al⟩
theorem LeM.base {M : Addr → Prop} {k0 h0 k1 h1 k2 h2 : Hp} (a : LeM M k0 h0 k1 h1) (b : LeM M k1 h0 k2 h2) : LeM M k0 h0 k2 h2 :=
  ⟨a.kk.trans b.kk, b.hh, b.kh, fun x n z => b.sp x n (a.sp x n z), b.al⟩
theorem run_for {tb : TS} (hi : EvI wi Γ ds) (I : Nat → Ge → Prop) (h0 : I 0 Γ)
    (step : ∀ (i : Nat) d Γi, ds[i]? = some d → I i Γi → ∃ Γ2 js, EvG g d js Γi Γ2 ∧ Run tb Γ2 { nx := I (i + 1), ct := I (i + 1), bk := P.nx, rt := P.rt })
    (done : ∀ Γn, I ds.length Γn → P.nx Γn) : Run (tFor wi g tb) Γ P := fun M k0 h0' k hp σ l o E D q => hi k hp σ l.kh E _ fun J k1 h1 l1 ok => by
  refine ⟨fun i m σ' H' => m = ds.length - i ∧ i ≤ ds.length ∧ ∃ Γi k', I i Γi ∧ Same k1 k' ∧ LeM M k0 h0' k' H' ∧ OwnM M h0' σ' Γi ∧ Env k' H' σ' Γi,
    ⟨ds.length, rfl, Nat.zero_le _, Γ, k1, h0, .refl _, l.then l1, o, E.le l1⟩, fun i m σ' H' hW => ?_⟩
  obtain ⟨rfl, hle, Γi, k', hI, s1, l', o', E'⟩ := hW
  by_cases hlt : i < ds.length
  · refine .inr ⟨ok.go i k' H' hlt s1 l'.kh, fun σ2 H2 => ∃ Γ2 k2, I (i + 1) Γ2 ∧ Same k1 k2 ∧ LeM M k0 h0' k2 H2 ∧ OwnM M h0' σ2 Γ2 ∧ Env k2 H2 σ2 Γ2,
      fun σ2 H2 ⟨Γ2, k2, a1, a2, a3, a4, a5⟩ => ⟨ds.length - (i + 1), by omega, rfl, hlt, Γ2, k2, a1, a2, a3, a4, a5⟩, fun x H2 y => ?_⟩
    have ed : ds[i]? = some ds[i] := List.getElem?_eq_getElem hlt
    obtain ⟨k2, l2, rx⟩ := ok.yld i ds[i] k' H' x H2 ed s1 l'.kh y
    obtain ⟨Γ2, js, hg, hr⟩ := step i ds[i] Γi ed hI
    have l3 := l'.then l2
    refine hg.run k2 H2 σ' x l3.kh (E'.le l2) rx _ fun σ2 E2 _ kk => ?_
    have lb := l.then l1
    have key : ∀ Γ' k' h' σ', I (i + 1) Γ' → LeM M k1 h0' k' h' → OwnM M h0' σ' Γ' → Env k' h' σ' Γ' → ∃ Γ2 k2, I (i + 1) Γ2 ∧ Same k1 k2 ∧ LeM M k0 h0' k2 h' ∧ OwnM M h0' σ' Γ2 ∧ Env k2 h' σ' Γ2 :=
      fun Γ' k' h' σ' w lw ow Ew => ⟨Γ', k', w, lw.kk, lb.base lw, ow, Ew⟩
    exact hr M k1 h0' k2 H2 σ2 (lb.rebase (s1.trans l2.kk) l3) (hg.own o' kk) E2 { D with nx := _, ct := _, bk := D.nx } ⟨fun Γ' k h σ w lw ow Ew => key Γ' k h σ w lw ow Ew,
      fun Γ' d' v k h σ w lw ow Ew r => q.rt Γ' d' v k h σ w (lb.base lw) ow Ew r, fun Γ' k h σ w lw ow Ew => q.nx Γ' k h σ w (lb.base lw) ow Ew, fun Γ' k h σ w lw ow Ew => key Γ' k h σ w lw ow Ew⟩
  · have e : i = ds.length := by omega
    subst e
    exact .inl ⟨ok.stop k' H' s1 l'.kh, q.nx Γi k' H' σ' (done Γi hI) l' o' E'⟩
/-- while: a word that falls -/
theorem run_while {tb : TS} {c : TT} (W : Nat → Ge → Prop) (m0 : Nat) (h0 : W m0 Γ)
    (step : ∀ m Γi, W m Γi → ∃ b, EvT c Γi b ∧ (b = true → Run tb Γi { nx := fun Γ' => ∃ m', m' < m ∧ W m' Γ', ct := fun Γ' => ∃ m', m' < m ∧ W m' Γ', bk := P.nx, rt := P.rt }) ∧ (b = false → P.nx Γi)) : Run (tWhile c tb) Γ P := fun M k0 h0' k hp σ l o E D q => by
  refine ⟨fun m σ' H' => ∃ Γi k', W m Γi ∧ LeM M k0 h0' k' H' ∧ OwnM M h0' σ' Γi ∧ Env k' H' σ' Γi, ⟨m0, Γ, k, h0, l, o, E⟩, fun m σ' H' hW => ?_⟩
  obtain ⟨Γi, k', hw, l', o', E'⟩ := hW
  obtain ⟨b, hb, h1, h2⟩ := step m Γi hw
  refine hb k' H' σ' l'.kh E' _ fun H2 g => ?_
  have le : Le k' H' k' H2 := .grow l'.kh g
  cases b with
  | true =>
    refine ⟨fun σ2 H3 => ∃ m', m' < m ∧ ∃ Γi k', W m' Γi ∧ LeM M k0 h0' k' H3 ∧ OwnM M h0' σ2 Γi ∧ Env k' H3 σ2 Γi, fun _ _ z => z, ?_⟩
    have key : ∀ Γ' k' h' σ', (∃ m', m' < m ∧ W m' Γ') → LeM M k0 h0' k' h' → OwnM M h0' σ' Γ' → Env k' h' σ' Γ' → ∃ m', m' < m ∧ ∃ Γi k', W m' Γi ∧ LeM M k0 h0' k' h' ∧ OwnM M h0' σ' Γi ∧ Env k' h' σ' Γi :=
      fun Γ' k' h' σ' ⟨m', hm, w⟩ lw ow Ew => ⟨m', hm, Γ', k', w, lw, ow, Ew⟩
    exact h1 rfl M k0 h0' k' H2 σ' (l'.then le) o' (E'.le le) { D with nx := _, ct := _, bk := D.nx } ⟨fun Γ' k h σ w lw ow Ew => key Γ' k h σ w lw ow Ew, q.rt, q.nx, fun Γ' k h σ w lw ow Ew => key Γ' k h σ w lw ow Ew⟩
  | false => exact q.nx Γi k' H2 σ' (h2 rfl) (l'.then le) o' (E'.le le)

/-! ### comprehensions -/
theorem ow_new {k h : Hp} {σ : St} {p : Addr} (E : Env k h σ Γ) (n : h p = none) : ∀ (i : Nat) s v, Γ[i]? = some s → σ[i]? = some v → ¬ Owns s v p := fun i s v e1 e2 ow => by
  obtain ⟨v', e3, ok⟩ := E.ok i s e1
  rw [e2] at e3; cases e3
  exact (Owns.here ok ow).1 n
/-- an unknown object of none's is written -/
theorem Env.beside {k h : Hp} {σ : St} {p : Addr} {o : HO} (E : Env k h σ Γ) (n : ∀ (i : Nat) s v, Γ[i]? = some s → σ[i]? = some v → ¬ Owns s v p) : Env k (upd h p o) σ Γ where
  len := E.len
  ok := fun i s e => by
    obtain ⟨v, e1, ok⟩ := E.ok i s e
    refine ⟨v, e1, ?_⟩
    have no : ∀ q, Owns s v q → q ≠ p := fun q ow z => n i s v e e1 (z ▸ ow)
    cases s with
    | non => trivial
    | dat d => exact ok
    | mu ds' => obtain ⟨q, zs, e3, n3, z3, r3⟩ := ok; exact ⟨q, zs, e3, n3, by rw [upd_ne (no q e3)]; exact z3, r3⟩
    | hp a c =>
      obtain ⟨e3, ⟨cs, z, h1, h2, h3⟩, ka, kc, ac⟩ := ok
      exact ⟨e3, ⟨cs, z, by rw [upd_ne (no a (.inl rfl))]; exact h1, by rw [upd_ne (no c (.inr rfl))]; exact h2, h3⟩, ka, kc, ac⟩
  own := E.own
theorem LeM.write {M : Addr → Prop} {k0 h0 k h : Hp} {p : Addr} {o : HO} (l : LeM M k0 h0 k h) (n : h0 p = none) (nk : k p = none) : LeM M k0 h0 k (upd h p o) := le_write l n nk
def plainAt (Γ : Ge) (j : Nat) : Bool := match Γ[j]? with
  | some (.mu _) => false
  | some (.hp _ _) => false
  | _ => true
theorem wipeG_get (Γ : Ge) (j : Nat) : ∀ vs : List Nat, j ∉ vs → (wipeG Γ vs)[j]? = Γ[j]?
  | [], _ => rfl
  | v :: vs, h => by
    show ((wipeG Γ vs).set v .non)[j]? = Γ[j]?
    rw [List.getElem?_set_ne fun e => h (by simp [e])]
    exact wipeG_get Γ j vs fun z => h (List.mem_cons_of_mem _ z)
theorem wipeG_hp {a c : Addr} {j : Nat} : ∀ vs : List Nat, (wipeG Γ vs)[j]? = some (.hp a c) → Γ[j]? = some (.hp a c)
  | [], z => z
  | v :: vs, z => by
    have z : ((wipeG Γ vs).set v .non)[j]? = some (.hp a c) := z
    by_cases hv : v = j
    · subst hv
      by_cases hl : v < (wipeG Γ vs).length
      · rw [List.getElem?_set_self hl] at z; cases z
      · rw [List.getElem?_eq_none (by rw [List.length_set]; omega)] at z; cases z
    · rw [List.getElem?_set_ne hv] at z
      exact wipeG_hp vs z
/-- [elt for target in iter if test], by a word of what is made so far -/
theorem el_lcS {vs : List Nat} {S : List PyData → Prop} (hi : EvI wi Γ ds) (hl : ds.length ≤ 1000) (pl : vs.all (plainAt Γ) = true) (I : Nat → List PyData → Prop) (h0 : I 0 [])
    (step : ∀ (i : Nat) d acc, ds[i]? = some d → I i acc → ∃ Γ2 js, EvG g d js (wipeG Γ vs) Γ2 ∧ js.all (vs.contains ·) = true ∧ EvST A t Γ2 fun b => (b = true → EvS A te Γ2 fun y => I (i + 1) (acc ++ [y])) ∧ (b = false → I (i + 1) acc))
    (hw : ∀ acc, I ds.length acc → S acc) : EvSL A (tLc wi g t te vs) Γ S := fun M k hp σ s E m Q q => hi k hp σ s E _ fun J k1 h1 l1 ok D hD => by
  have nD : hp D = none := l1.same.free hD
  have E1 := E.le l1
  refine ⟨fun i m H' => m = ds.length - i ∧ i ≤ ds.length ∧ ∃ acc xs k', I i acc ∧ acc.length ≤ i ∧ LeM (fun p => M p ∧ hp p ≠ none) k1 h1 k' H' ∧ k' D = none ∧ H' D = some (.lst xs) ∧ DqAll k' xs acc ∧ Env k' H' σ Γ,
    ⟨ds.length, rfl, Nat.zero_le _, [], [], k1, h0, Nat.zero_le _, le_write (.refl l1.kh) hD (l1.kh.free hD), l1.kh.free hD, upd_same, .nil, E1.beside (ow_new E1 hD)⟩, fun i m' H' hW => ?_⟩
  obtain ⟨rfl, hle, acc, xs, k', hI, hacc, l', n', z', r', E'⟩ := hW
  by_cases hlt : i < ds.length
  · refine .inr ⟨ok.go i k' H' hlt l'.kk l'.kh, fun H2 => ∃ acc xs k', I (i + 1) acc ∧ acc.length ≤ i + 1 ∧ LeM (fun p => M p ∧ hp p ≠ none) k1 h1 k' H2 ∧ k' D = none ∧ H2 D = some (.lst xs) ∧ DqAll k' xs acc ∧ Env k' H2 σ Γ,
      fun H2 ⟨a1, a2, a3, a4⟩ => ⟨ds.length - (i + 1), by omega, rfl, hlt, a1, a2, a3, a4⟩, fun x H2 y => ?_⟩
    have ed : ds[i]? = some ds[i] := List.getElem?_eq_getElem hlt
    obtain ⟨k2, l2, rx⟩ := ok.yld i ds[i] k' H' x H2 ed l'.kk l'.kh y
    obtain ⟨Γ2, js, hg, hj0, ht⟩ := step i ds[i] acc ed hI
    have hj : ∀ j ∈ js, j ∈ vs := fun j z => by simpa using List.all_eq_true.mp hj0 j z
    have l3 := l'.then l2
    have E2 := E'.le l2
    have hps : A → HpIn (fun p => M p ∧ hp p ≠ none) Γ2 := fun hA j a c e => by
      by_cases hjs : j ∈ js
      · obtain ⟨d, z⟩ := hg.dat j _ hjs e
        cases z
      · rw [hg.keep j hjs] at e
        have hjv := wipeG_hp vs e
        obtain ⟨v, e1, _, hat⟩ := E.ok j _ hjv
        obtain ⟨cs, z, q1, q2, _⟩ := hat.has
        have mm := m hA j a c hjv
        exact ⟨⟨mm.1, ne_none_of q1⟩, ⟨mm.2, ne_none_of q2⟩⟩
    refine hg.run k2 H2 (wipe σ vs) x l3.kh (E2.wipe vs) rx _ fun σ2 E3 ln kk => ?_
    have hD2 : H2 D = some (.lst xs) := l2.same _ _ z'
    have nD2 : k2 D = none := l2.sp D (ne_none_of z') n'
    have DM : ¬ (M D ∧ hp D ≠ none) := fun z => z.2 nD
    have oD : ∀ (i : Nat) s v, Γ[i]? = some s → σ[i]? = some v → ¬ Owns s v D := ow_new E nD
    -- back in the outer slots
    have outer : ∀ k4 H4, LeM (fun p => M p ∧ hp p ≠ none) k2 H2 k4 H4 → Env k4 H4 σ2 Γ2 → Env k4 H4 σ Γ := fun k4 H4 l4 E4 => by
      refine ⟨E.len, fun j s e => ?_, E.own⟩
      obtain ⟨v, e1, ok2⟩ := E2.ok j s e
      have hp := fun z : j ∈ vs => List.all_eq_true.mp pl j z
      have ext : j ∉ vs → ∃ v, σ[j]? = some v ∧ SlOk k4 H4 s v := fun z => by
        have zj : j ∉ js := fun w => z (hj j w)
        obtain ⟨v4, f4, ok4⟩ := E4.ok j s (by rw [hg.keep j zj, wipeG_get Γ j vs z]; exact e)
        rw [kk j zj, wipe_get, if_neg (fun w => z w.1)] at f4
        exact ⟨v4, f4, ok4⟩
      cases s with
      | non => exact ⟨v, e1, trivial⟩
      | dat d => obtain ⟨u, e2, r2⟩ := ok2; exact ⟨v, e1, u, e2, r2.mono l4.kk⟩
      | mu ds' => exact ext fun z => by have := hp z; unfold plainAt at this; rw [e] at this; cases this
      | hp a c => exact ext fun z => by have := hp z; unfold plainAt at this; rw [e] at this; cases this
    refine ⟨?_, ?_⟩
    · rw [← wipe_wipe σ vs]
      exact wipe_eq (by rw [ln, wipe_length]) fun j hj' => kk j fun z => hj' (hj j z)
    · refine ht _ k2 H2 σ2 l3.kh E3 hps _ fun b k3 H3 l4 E4 wb => ?_
      have lt3 := l3.trans l4
      have n3 := l4.sp D (ne_none_of hD2) nD2
      have z3 := l4.hh D _ DM hD2
      cases b with
      | true =>
        refine wb.1 rfl _ k3 H3 σ2 l4.kh E4 hps _ fun y dy k4 H4 l5 E5 wy ry => ?_
        have n4 := l5.sp D (ne_none_of z3) n3
        have z4 := l5.hh D _ DM z3
        have rr := (r'.mono (l2.kk.trans (l4.kk.trans l5.kk))).append (.one ry)
        refine ⟨xs, z4, by rw [r'.length]; exact Nat.lt_of_le_of_lt hacc (Nat.lt_of_lt_of_le hlt (Nat.le_trans hl (by decide))), acc ++ [dy], xs ++ [y], k4, wy, by rw [List.length_append]; exact Nat.succ_le_succ hacc, le_write (lt3.trans l5) hD n4, n4, upd_same, rr, ?_⟩
        exact (outer k4 H4 (l4.trans l5) E5).beside oD
      | false => exact ⟨acc, xs, k3, wb.2 rfl, Nat.le_succ_of_le hacc, lt3, n3, z3, r'.mono (l2.kk.trans l4.kk), outer k3 H3 l4 E4⟩
  · have e : i = ds.length := by omega
    subst e
    exact .inl ⟨ok.stop k' H' l'.kk l'.kh, q D xs acc k' H' (l1.any.trans (l'.imp fun x z => z.1)) E' nD n' z' (hw acc hI) r'⟩
/-- the plain one: which items are taken, and what is made of them -/
theorem el_lc {α : Type} {vs : List Nat} (xs : List α) (enc : α → PyData) (f : α → Bool) (e : α → PyData) (hi : EvI wi Γ (xs.map enc)) (hl : xs.length ≤ 1000) (pl : vs.all (plainAt Γ) = true)
    (step : ∀ x ∈ xs, ∃ Γ2 js, EvG g (enc x) js (wipeG Γ vs) Γ2 ∧ js.all (vs.contains ·) = true ∧ EvT t Γ2 (f x) ∧ (f x = true → EvD te Γ2 (e x))) : EvL (tLc wi g t te vs) Γ ((xs.filter f).map e) :=
  evl_of (el_lcS hi (by rw [List.length_map]; exact hl) pl (fun i acc => acc = ((xs.take i).filter f).map e) rfl (fun i d acc ed ha => by
    rw [List.getElem?_map] at ed
    cases q : xs[i]? with
    | none => rw [q] at ed; cases ed
    | some x =>
      rw [q] at ed
      cases ed
      obtain ⟨Γ2, js, h1, h2, h3, h4⟩ := step x (List.mem_of_getElem? q)
      have hq : (xs.take (i + 1)) = xs.take i ++ [x] := by rw [List.take_add_one, q]; rfl
      refine ⟨Γ2, js, h1, h2, evst_t h3 ⟨fun hb => evs_d (h4 hb) ?_, fun hb => ?_⟩⟩
      · rw [ha, hq, List.filter_append, List.map_append, List.filter_cons, if_pos hb]
        rfl
      · rw [ha, hq, List.filter_append, List.map_append, List.filter_cons, if_neg (by rw [hb]; decide)]
        show _ = _ ++ []
        rw [List.append_nil]) (fun acc ha => by rw [ha, List.length_map, List.take_length]))
/-- without a test -/
theorem el_map {α : Type} {vs : List Nat} (xs : List α) (enc : α → PyData) (e : α → PyData) (hi : EvI wi Γ (xs.map enc)) (hl : xs.length ≤ 1000) (pl : vs.all (plainAt Γ) = true)
    (step : ∀ x ∈ xs, ∃ Γ2 js, EvG g (enc x) js (wipeG Γ vs) Γ2 ∧ js.all (vs.contains ·) = true ∧ EvD te Γ2 (e x)) : EvL (tLc wi g tYes te vs) Γ (xs.map e) := by
  have h := el_lc (Γ := Γ) (wi := wi) (g := g) (t := tYes) (te := te) (vs := vs) xs enc (fun _ => true) e hi hl pl fun x hx => by
    obtain ⟨Γ2, js, h1, h2, h3⟩ := step x hx
    exact ⟨Γ2, js, h1, h2, et_yes, fun _ => h3⟩
  rw [List.filter_eq_self.mpr fun _ _ => rfl] at h
  exact h
end
end Bx
namespace Bx
open PySem PySem.Spec L2

/-! ### defs by their data -/
def startG (n : Nat) (ss : List Sl) : Ge := ss ++ List.replicate (n - ss.length) .non
def HeadOk (k h : Hp) (vs : List V) (ss : List Sl) : Prop := ∀ (i : Nat) s, ss[i]? = some s → ∃ v, vs[i]? = some v ∧ SlOk k h s (some v)
theorem start_env {N : List Str} {k h : Hp} {vs : List V} {ss : List Sl} (hl : vs.length = ss.length) (hn : ss.length ≤ N.length) (ho : HeadOk k h vs ss)
    (own : ∀ (i j : Nat) s t v u, i ≠ j → ss[i]? = some s → ss[j]? = some t → vs[i]? = some v → vs[j]? = some u → ∀ p, Owns s (some v) p → Owns t (some u) p → False) : Env k h (L2.start N vs) (startG N.length ss) := by
  have at1 : ∀ (i : Nat) s, (startG N.length ss)[i]? = some s → (i < ss.length ∧ ss[i]? = some s) ∨ (ss.length ≤ i ∧ i < N.length ∧ s = .non) := fun i s e => by
    unfold startG at e
    by_cases hi : i < ss.length
    · rw [List.getElem?_append_left hi] at e; exact .inl ⟨hi, e⟩
    · rw [List.getElem?_append_right (by omega), List.getElem?_replicate] at e
      split at e
      · exact .inr ⟨by omega, by omega, (Option.some.inj e).symm⟩
      · cases e
  have at2 : ∀ i : Nat, i < vs.length → (L2.start N vs)[i]? = (vs[i]?).map some := fun i hi => by
    unfold L2.start
    rw [List.getElem?_append_left (by rw [List.length_map]; exact hi), List.getElem?_map]
  refine ⟨?_, fun i s e => ?_, fun i j s t v u ij e1 e2 f1 f2 p w1 w2 => ?_⟩
  · unfold L2.start startG
    rw [List.length_append, List.length_append, List.length_map, List.length_replicate, List.length_replicate, hl]
  · rcases at1 i s e with ⟨hi, e'⟩ | ⟨h1, h2, rfl⟩
    · obtain ⟨v, ev, ok⟩ := ho i s e'
      exact ⟨some v, by rw [at2 i (by omega), ev]; rfl, ok⟩
    · refine ⟨none, ?_, trivial⟩
      unfold L2.start
      rw [List.getElem?_append_right (by rw [List.length_map]; omega), List.getElem?_replicate, List.length_map, if_pos (by omega)]
  · rcases at1 i s e1 with ⟨hi, e1'⟩ | ⟨_, _, rfl⟩
    · rcases at1 j t e2 with ⟨hj, e2'⟩ | ⟨_, _, rfl⟩
      · obtain ⟨v', ev, _⟩ := ho i s e1'
        obtain ⟨u', eu, _⟩ := ho j t e2'
        rw [at2 i (by omega), ev] at f1
        rw [at2 j (by omega), eu] at f2
        cases f1; cases f2
        exact own i j s t v' u' ij e1' e2' ev eu p w1 w2
      · exact w2
    · exact w1
theorem head_dat {k h : Hp} : ∀ {vs : List V} {ds : List PyData}, DqAll k vs ds → HeadOk k h vs (ds.map Sl.dat) := fun {vs ds} r i s e => by
  rw [List.getElem?_map] at e
  cases q : ds[i]? with
  | none => rw [q] at e; cases e
  | some d =>
    rw [q] at e; cases e
    obtain ⟨v, ev, rv⟩ := r.got q
    exact ⟨v, ev, v, rfl, rv⟩
theorem start_dat {N : List Str} {k h : Hp} {vs : List V} {ds : List PyData} (r : DqAll k vs ds) (hn : ds.length ≤ N.length) : Env k h (L2.start N vs) (startG N.length (ds.map Sl.dat)) :=
  start_env (by rw [r.length, List.length_map]) (by rw [List.length_map]; exact hn) (head_dat r) fun i j s t v u _ e1 _ _ _ p w1 _ => by
    rw [List.getElem?_map] at e1
    cases q : ds[i]? with
    | none => rw [q] at e1; cases e1
    | some d => rw [q] at e1; cases e1; exact w1
section
variable {P : Program} {w : World} {K : PySem.W.Frag} {mg : Str → Option Value} {base : Heap}
/-- a def that changes nothing: for all data that R tells of -/
theorem fun_pure {x qual : Str} {st : Stmt} {f : Addr} {fd : FuncData} {N ps : List Str} {k : Nat} {R : List PyData → PyData → Prop} (F : Fun K x qual st f fd) (S : FnScope N ps (defScope st)) (len : ∀ ds d, R ds d → ds.length = ps.length)
    (body : ∀ (cdv : Value) (A : Around) (outer : List PySem.Env) (s : Shared) (H : Hp) (E : XK), Room k (A.deeper (PyProof.Rows.envOfC qual (defScope st) s.heap.objs.size f cdv)) →
      ∃ t, PSs (cxOf CX0 P w K mg base N qual (defScope st) f cdv A outer s H E).nox (defBody st) t ∧ ∀ ds d, R ds d → Run t (startG N.length (ds.map Sl.dat)) { rt := fun _ d' => d' = d }) :
    FnOk P w K mg base CX0 (k + 1) f fd ps (spD R) := by
  have hp : ps.length ≤ N.length := by have := congrArg List.length S.pre; rw [List.length_take] at this; omega
  refine F.ok S (fun vs H Q E ⟨k', ds, d, s, r, hr, q⟩ => by rw [r.length]; exact len ds d hr) fun cdv A outer s H vs Q E hr ⟨k', ds, d, s', r, hR, q⟩ => ?_
  obtain ⟨t, ht, hb⟩ := body cdv A outer s H E hr
  refine ⟨t, ht, ?_⟩
  refine hb ds d hR M0 k' H k' H (L2.start N vs) (.refl s') (fun i s v e1 e2 => ?_) (start_dat r (by rw [len ds d hR]; exact hp)) { nx := fun _ H' => Q .non H', rt := Q } ⟨fun _ _ _ _ z => z.elim, fun Γ d' v k2 h2 σ z l _ _ rv => ?_, fun _ _ _ _ z => z.elim, fun _ _ _ _ z => z.elim⟩
  · unfold startG at e1
    by_cases hi : i < (ds.map Sl.dat).length
    · rw [List.getElem?_append_left hi, List.getElem?_map] at e1
      cases q : ds[i]? with
      | none => rw [q] at e1; cases e1
      | some d => rw [q] at e1; cases e1; trivial
    · rw [List.getElem?_append_right (by omega), List.getElem?_replicate] at e1
      split at e1
      · cases e1; trivial
      · cases e1
  · have z : d' = d := z
    subst z
    exact q v k2 h2 l rv
/-- the promise of a def that draws: its first argument the draws' heap -/
def spS (R : List PyData → PyData → Prop) (C : List PyData → Prop) : Sp := fun vs H Q _ => ∃ (a c : Addr) (us : List V) (k : Hp) (ds : List PyData), vs = .ref a :: us ∧ Same k H ∧ HpAt k H a c ∧ DqAll k us ds ∧ C ds ∧
  ∀ v d k' H', LeM (fun p => p = a ∨ p = c) k H k' H' → HpAt k' H' a c → Dq k' v d → R ds d → Q v H'
theorem fun_state {x qual : Str} {st : Stmt} {f : Addr} {fd : FuncData} {N ps : List Str} {k : Nat} {R : List PyData → PyData → Prop} {C : List PyData → Prop} (F : Fun K x qual st f fd) (S : FnScope N ps (defScope st)) (len : ∀ ds, C ds → ds.length + 1 = ps.length)
    (body : ∀ (cdv : Value) (A : Around) (outer : List PySem.Env) (s : Shared) (H : Hp) (E : XK), Room k (A.deeper (PyProof.Rows.envOfC qual (defScope st) s.heap.objs.size f cdv)) →
      ∃ t, PSs (cxOf CX0 P w K mg base N qual (defScope st) f cdv A outer s H E).nox (defBody st) t ∧ ∀ a c ds, C ds → Run t (startG N.length (.hp a c :: ds.map Sl.dat)) { rt := fun Γ d => Γ[0]? = some (.hp a c) ∧ R ds d }) :
    FnOk P w K mg base CX0 (k + 1) f fd ps (spS R C) := by
  have hp : ps.length ≤ N.length := by have := congrArg List.length S.pre; rw [List.length_take] at this; omega
  refine F.ok S (fun vs H Q E ⟨a, c, us, k', ds, e, s, ha, r, hr, q⟩ => by rw [e, List.length_cons, r.length]; exact len ds hr) fun cdv A outer s H vs Q E hr ⟨a, c, us, k', ds, e, s', ha, r, hC, q⟩ => ?_
  subst e
  obtain ⟨t, ht, hb⟩ := body cdv A outer s H E hr
  refine ⟨t, ht, ?_⟩
  have ho : HeadOk k' H (.ref a :: us) (.hp a c :: ds.map Sl.dat) := fun i s e => by
    cases i with
    | zero => cases e; exact ⟨_, rfl, rfl, ha⟩
    | succ i => exact head_dat (h := H) r i s (by simpa using e)
  have no : ∀ (i : Nat) s v p, (ds.map Sl.dat)[i]? = some s → ¬ Owns s v p := fun i s v p e w => by
    rw [List.getElem?_map] at e
    cases q : ds[i]? with
    | none => rw [q] at e; cases e
    | some d => rw [q] at e; cases e; exact w
  refine hb a c ds hC (fun p => p = a ∨ p = c) k' H k' H (L2.start N (.ref a :: us)) (.refl s') (fun i s v e1 e2 => ?_) (start_env (by rw [List.length_cons, List.length_cons, List.length_map, r.length]) (by rw [List.length_cons, List.length_map, len ds hC]; exact hp) ho fun i j s t v u ij e1 e2 _ _ p w1 w2 => ?_)
    { nx := fun _ H' => Q .non H', rt := Q } ⟨fun _ _ _ _ z => z.elim, fun Γ d' v k2 h2 σ z l _ E rv => ?_, fun _ _ _ _ z => z.elim, fun _ _ _ _ z => z.elim⟩
  · unfold startG at e1
    cases i with
    | zero => cases e1; exact ⟨.inl rfl, .inr rfl⟩
    | succ i =>
      have e1 : (ds.map Sl.dat ++ List.replicate (N.length - (ds.map Sl.dat).length.succ) Sl.non)[i]? = some s := by simpa using e1
      by_cases hi : i < (ds.map Sl.dat).length
      · rw [List.getElem?_append_left hi, List.getElem?_map] at e1
        cases q : ds[i]? with
        | none => rw [q] at e1; cases e1
        | some d => rw [q] at e1; cases e1; trivial
      · rw [List.getElem?_append_right (by omega), List.getElem?_replicate] at e1
        split at e1
        · cases e1; trivial
        · cases e1
  · cases i with
    | succ i => exact no i s _ p (by simpa using e1) w1
    | zero =>
      cases j with
      | zero => exact ij rfl
      | succ j => exact no j t _ p (by simpa using e2) w2
  · obtain ⟨v', _, _, hat⟩ := E.ok 0 _ z.1
    exact q v d' k2 h2 l hat rv z.2
end

section
variable {A : Prop} {Γ : Ge} {ta tb te : TE} {targ : TA} {a b d : PyData} {ds es : List PyData} {P : Pst}
/-- a call of such a def -/
theorem evs_call {R : List PyData → PyData → Prop} {C : List PyData → Prop} {S : PyData → Prop} {E : XK} {i : Nat} {x c : Addr} (e : Γ[i]? = some (.hp x c)) (hA : A) (h : EvSA A targ Γ fun ds => C ds ∧ ∀ d, R ds d → S d) :
    EvS A (tCall (spS R C) [] E (tCons (tVar i) targ)) Γ S := fun M k hp σ s En m Q q => by
  obtain ⟨v, e1, e2, _⟩ := En.ok i _ e
  subst e2
  refine ⟨.ref x, e1, ?_⟩
  refine h M k hp σ s En m _ fun us ds k1 h1 l1 E1 w r => ?_
  obtain ⟨v', f1, f2, hat⟩ := E1.ok i _ e
  have mm := m hA i x c e
  refine ⟨x, c, us, k1, ds, by rw [List.append_nil], l1.kh, hat, r, w.1, fun v d k2 h2 l2 hat2 rv hR => ?_⟩
  have l3 : LeM M k1 h1 k2 h2 := l2.imp fun p z => z.elim (fun e => e ▸ mm.1) fun e => e ▸ mm.2
  refine q v d k2 h2 (l1.trans l3) ⟨E1.len, fun j s e9 => ?_, E1.own⟩ (w.2 d hR) rv
  obtain ⟨u, g1, ok⟩ := E1.ok j s e9
  refine ⟨u, g1, ?_⟩
  by_cases hj : i = j
  · subst hj
    rw [e] at e9; cases e9
    rw [f1] at g1; cases g1
    exact ⟨f2, hat2⟩
  · have no : ∀ p, Owns s u p → ¬ (p = x ∨ p = c) := fun p ow z => E1.own i j _ s v' u hj e e9 f1 g1 p z ow
    have al : ∀ p, h1 p ≠ none → k1 p = none → k2 p = none := l2.sp
    cases s with
    | non => trivial
    | dat d => obtain ⟨u', g2, r2⟩ := ok; exact ⟨u', g2, r2.mono l2.kk⟩
    | mu ds' => obtain ⟨p, xs, g2, n2, z2, r2⟩ := ok; exact ⟨p, xs, g2, al p (ne_none_of z2) n2, l2.hh p _ (no p g2) z2, r2.mono l2.kk⟩
    | hp a' c' =>
      obtain ⟨g2, ⟨cs, z, q1, q2, q3⟩, ka, kc, ac⟩ := ok
      exact ⟨g2, ⟨cs, z, l2.hh _ _ (no a' (.inl rfl)) q1, l2.hh _ _ (no c' (.inr rfl)) q2, q3⟩, al a' (ne_none_of q1) ka, al c' (ne_none_of q2) kc, ac⟩
/-- a, b = x, y -/
theorem run_par {i j : Nat} (h : EvSA A targ Γ fun ds => ∃ x y, ds = [x, y] ∧ P.nx ((Γ.set i (.dat x)).set j (.dat y))) : Run (tPar i j targ) Γ P := fun M k0 h0 k hp σ l o E D q =>
  h _ k hp σ l.kh E (fun _ => own_hp o E) _ fun vs ds k' h' l' E' ⟨x, y, e, w⟩ r => by
    subst e
    obtain ⟨v, u, rfl, rv, ru⟩ := r.two_inv
    exact ⟨v, u, rfl, q.nx _ k' h' _ w (l.behind l') (own_set (own_set o i (some v) (.dat x) trivial) j (some u) (.dat y) trivial) ((E'.setD i rv).setD j ru)⟩
theorem evsa_a {S : List PyData → Prop} (h : EvA targ Γ ds) (w : S ds) : EvSA A targ Γ S := fun M k hp σ s E _ Q q => h k hp σ s E Q fun v k' h' l r => q v ds k' h' l.any (E.le l) w r
/-- a tuple, a list of things that are drawn -/
theorem evs_tup {S : PyData → Prop} (h : EvSA A targ Γ fun ds => ds.length ≤ 1000 ∧ S (.tuple ds)) : EvS A (tTup targ) Γ S := fun M k hp σ s E m Q q =>
  h M k hp σ s E m _ fun vs ds k1 h1 l1 E1 w r => ⟨by rw [r.length]; exact Nat.le_trans w.1 (by decide), fun p n => by
    have le := Le.new (o := .tup vs) l1.kh n
    exact q _ _ _ _ (l1.then le) (E1.le le) w.2 (.tup upd_same (r.mono (same_new (l1.kh.free n))))⟩
theorem evs_lst {S : PyData → Prop} (h : EvSA A targ Γ fun ds => ds.length ≤ 1000 ∧ S (.list ds)) : EvS A (tLst targ) Γ S := fun M k hp σ s E m Q q =>
  h M k hp σ s E m _ fun vs ds k1 h1 l1 E1 w r => ⟨by rw [r.length]; exact Nat.le_trans w.1 (by decide), fun p n => by
    have le := Le.new (o := .lst vs) l1.kh n
    exact q _ _ _ _ (l1.then le) (E1.le le) w.2 (.lst upd_same (r.mono (same_new (l1.kh.free n))))⟩
theorem evs_op {r : R2} {S : PyData → Prop} (ha : EvS A ta Γ fun a => EvS A tb Γ fun b => ∃ d, OpD r a b d ∧ S d) : EvS A (tOp r ta tb) Γ S := fun M k h σ s E m Q q =>
  ha M k h σ s E m _ fun x a k1 h1 l1 E1 w1 rx => w1 M k1 h1 σ l1.kh E1 m _ fun y b k2 h2 l2 E2 ⟨d, ho, w⟩ ry => ho k2 h2 x y l2.kh (rx.mono l2.kk) ry Q fun v k3 h3 l3 rv => q v d k3 h3 ((l1.trans l2).then l3) (E2.le l3) w rv
theorem evs_cb {r : List V → Hp → VK → Prop} {S : PyData → Prop} (h : EvSA A targ Γ fun ds => ∃ d, CaD r ds d ∧ S d) : EvS A (tCB r targ) Γ S := fun M k hp σ s E m Q q =>
  h M k hp σ s E m _ fun vs ds k1 h1 l1 E1 ⟨d, ho, w⟩ rv => ho k1 h1 vs l1.kh rv Q fun v k3 h3 l3 r => q v d k3 h3 (l1.then l3) (E1.le l3) w r
theorem evs_call0 {R : List PyData → PyData → Prop} {S : PyData → Prop} {E : XK} (h : EvSA A targ Γ fun ds => ∃ d, R ds d ∧ S d) : EvS A (tCall (spD R) [] E targ) Γ S := fun M k hp σ s En m Q q =>
  h M k hp σ s En m _ fun vs ds k1 h1 l1 E1 ⟨d, hr, w⟩ rv => ⟨k1, ds, d, l1.kh, by rw [List.append_nil]; exact rv, hr, fun v k3 h3 l3 r => q v d k3 h3 (l1.then l3) (E1.le l3) w r⟩
theorem evs_if {t : TT} {S : PyData → Prop} {c : Bool} (h : EvT t Γ c) (h1 : c = true → EvS A ta Γ S) (h2 : c = false → EvS A tb Γ S) : EvS A (tIf t ta tb) Γ S := fun M k hp σ s E m Q q => h k hp σ s E _ fun h' g => by
  have l : Le k hp k h' := .grow s g
  cases c with
  | true => exact h1 rfl M k h' σ l.kh (E.le l) m Q fun v d k2 h2 l2 r => q v d k2 h2 (l.any.trans l2) r
  | false => exact h2 rfl M k h' σ l.kh (E.le l) m Q fun v d k2 h2 l2 r => q v d k2 h2 (l.any.trans l2) r
theorem evst_test {S : Bool → Prop} (h : EvS A te Γ fun d => ∃ b, d = .bool b ∧ S b) : EvST A (tTest te) Γ S := fun M k hp σ s E m Q q => h M k hp σ s E m _ fun v d k' h' l E' ⟨b, e, w⟩ r => by
  subst e
  exact ⟨b, r.bool_inv, q b k' h' l E' w⟩
end
end Bx
namespace Bx
open PySem PySem.Spec L2
section
variable {X : Cx} {CX : CXT} {k : Nat} {f : Addr} {fd : FuncData} {ps ks : List PySem.Str} {sp : Sp} {E : XK} {x : PySem.Str} {p pos : PySem.Pos} {kws : List Keyword} {tk : TA} {g : List Value → List Value → List Value} {gV : List V → List V → List V}
/-- f(k = v, ..): all by keywords -/
theorem pe_callK0 (F : FnOk X.prog X.w X.K X.mg X.base CX k f fd ps sp) (hr : Room k X.A) (hg : Gl X x) (hm : X.mg x = some (.ref f)) (hk : PySem.W.keepIn X.K (.ref f) = true) (hb : KBinds X.K fd ps ks g gV) (hx : Passes CX X E) (hkw : PK X kws tk)
    (hall : (backToKw pos (keywordEach kws X.env)).all (·.1.isSome) = true := by rfl) (hks : (backToKw pos (keywordEach kws X.env)).filterMap (·.1) = ks := by rfl)
    (hdb : (x == ("__debug__" : PySem.Str)) = false := by decide) (hpl : ((backTo pos (starEach [] X.env)).any (·.1) || (backToKw pos (keywordEach kws X.env)).any (·.1.isNone)) = false := by rfl) :
    PE X (.Call (.Name x p) [] kws pos) (tCallK sp gV E tNil tk) := by
  refine ⟨fun pins s σ H Q I h => wpAny_Call_Name_kw (ld_glob I hg hm ?_ hdb)⟩
  refine PySem.W.callWith_KW0 (h₀ := X.base) I.ok.mod.kin hk hall (thn (hkw.run pos pins s σ H _ I h) fun ws s2 ⟨zs, H2, I2, rz, q2⟩ => ⟨I2.kIn, ?_⟩) hpl
  rw [hks]
  exact run_fnk (us := []) (vs := []) F hr hb hx I2 .nil rz q2
/-- x in t, t a tuple of data -/
def rInT (K : PySem.W.Frag) : R2 := fun x y H Q => ∃ d ds, Dp K H x d ∧ Dp K H y (.tuple ds) ∧ SeqAt.shaped d = true ∧ SeqAt.shaped (.tuple ds) = true ∧ Q (.bl (ds.any fun z => PyData.eqv z d)) H
theorem op_inT (hu : X.A.units + 65 < cLine) : OpR X (compareOp .In) (rInT X.K) := by
  intro pins s σ H x y v u Q I rx ry ⟨d, ds, hd, he, sd, se, q⟩
  obtain ⟨as, r1⟩ := Dp.reads I d x v hd rx
  obtain ⟨bs, r2⟩ := Dp.reads I (.tuple ds) y u he ry
  exact SeqAt.in_tuple_reads r2 r1 (SeqAt.canLay_of_shaped se) (SeqAt.canLay_of_shaped sd) (by have := SeqAt.depth_of_shaped sd; omega) ⟨.bl _, H, I, rfl, q⟩
theorem od_inT {a : PyData} {ds : List PyData} {K : PySem.W.Frag} (ha : SeqAt.shaped a = true) (hb : SeqAt.shaped (.tuple ds) = true) : OpD (rInT K) a (.tuple ds) (.bool (ds.any fun z => PyData.eqv z a)) := fun k h x y s rx ry Q q =>
  ⟨a, ds, (rx.mono s).dp K, (ry.mono s).dp K, ha, hb, q _ k h (.refl s) (.bl _)⟩
/-- repr -/
def ShowOk (d : PyData) : Prop := d.showable = true ∧ d.hasDict = false ∧ d.depth ≤ 60 ∧ d.shown.length ≤ sizeLine
def rRepr (K : PySem.W.Frag) : List V → Hp → VK → Prop := fun xs H Q => ∃ x d, xs = [x] ∧ Dp K H x d ∧ ShowOk d ∧ (∃ a, x = .ref a) ∧ Q (.str d.shown) H
theorem cr_repr (hg : X.A.guards = some []) (hu : X.A.units + 64 < cLine) : CallR X (.builtin "repr") (rRepr X.K) := by
  intro pins s σ H xs us Q I r ⟨x, d, e, hd, ⟨h1, h2, h3, h4⟩, ⟨a, ea⟩, q⟩
  subst e ea
  cases r with
  | cons r rr =>
    cases rr
    obtain ⟨as, r1⟩ := Dp.reads I d _ _ hd r
    cases r
    exact repr_of_reads' r1 h1 (fun z => by rw [h2] at z; cases z) hg (by omega) (fun _ _ z => z) (fun h' u tk kk => ⟨.str d.shown, H, I.kept (h' := h') (t' := tk) kk, ⟨_, rfl⟩, q⟩) h4
def rReprB : List V → Hp → VK → Prop := fun xs H Q => ∃ b, xs = [.bl b] ∧ Q (.str (if b then "True" else "False")) H
theorem cr_reprB : CallR X (.builtin "repr") rReprB := by
  intro pins s σ H xs us Q I r ⟨b, e, q⟩
  subst e
  cases r with
  | cons r rr =>
    cases rr
    cases r
    exact PySem.P.repr_of_bool ⟨.str _, H, I.tok _, ⟨_, rfl⟩, q⟩
theorem ca_repr {d : PyData} {K : PySem.W.Frag} (ok : ShowOk d) (hr : ∃ ds, d = .tuple ds ∨ d = .list ds) : CaD (rRepr K) [d] (.str d.shown) := fun k h vs s r Q q => by
  obtain ⟨v, rfl, rv⟩ := r.one_inv
  refine ⟨v, d, rfl, (rv.mono s).dp K, ok, ?_, q _ k h (.refl s) (.str _)⟩
  obtain ⟨ds, e | e⟩ := hr
  · subst e; obtain ⟨a, _, e, _⟩ := rv.tuple_inv; exact ⟨a, e⟩
  · subst e; obtain ⟨a, _, e, _⟩ := rv.list_inv; exact ⟨a, e⟩
theorem ca_reprB {b : Bool} : CaD rReprB [.bool b] (.str (if b then "True" else "False")) := fun k h vs s r Q q => by
  obtain ⟨v, rfl, rv⟩ := r.one_inv
  rw [rv.bool_inv]
  exact ⟨b, rfl, q _ k h (.refl s) (.str _)⟩
/-- isinstance of data -/
def tyD : PyData → String
  | .none => "NoneType"
  | .bool _ => "bool"
  | .int _ => "int"
  | .str _ => "str"
  | .list _ => "list"
  | .tuple _ => "tuple"
  | .dict _ => "dict"
theorem Dq.ty {k : Hp} {v : V} {d : PyData} {K : PySem.W.Frag} (h : Dq k v d) : TyX K k v (.type (tyD d)) := by
  cases h with
  | non => exact .base .non
  | bl b => exact .base (.bl b)
  | int i => exact .base (.int i)
  | str x => exact .base (.str x)
  | lst h1 _ => exact .base (.lst h1)
  | tup h1 _ => exact .base (.tup h1)
theorem ev_isi {Γ : Ge} {ta : TE} {d : PyData} {K : PySem.W.Frag} {T : String} {b : Bool} (h : EvD ta Γ d) (hb : kitB (tyD d) T = some b) : EvD (tCB (rIsi K) (tCons ta (tCons (tC (.ty T)) tNil))) Γ (.bool b) := fun k hp σ s E Q q =>
  h k hp σ s E _ fun v k' h' l r => ⟨v, .ty T, .type (tyD d), .type T, b, rfl, .ty T, (r.mono l.kh).ty, kit_ty hb, q _ k' h' l (.bl b)⟩
end
end Bx
namespace Bx
open PySem PySem.Spec L2 PyProof.Rows
/-! ### enumerate(a tuple) -/
abbrev tiO (t : Addr) : Obj := { cls := .type "tuple_iterator", data := .fields #[.ref t, .int 0 0] }
abbrev enO (i : Addr) : Obj := { cls := .type "enumerate", data := .fields #[.none, .bool false, .ref i, rawInt 0, .none, .none] }
theorem enum_tup_new (t : Addr) (items : Array Value) : Meets (Builtin.«enumerate.__new__» ⟨[.type "enumerate", .ref t], []⟩) (fun _ R s => s.heap.IsTuple t items ∧
    R (.ok (.ret (.ref (s.heap.push (tiO t)).objs.size))) { s with heap := (s.heap.push (tiO t)).push (enO s.heap.objs.size) }) :=
  .of_wp fun prog w A R s h => by
    obtain ⟨hp, g, d, tk, os⟩ := s
    obtain ⟨hT, h⟩ := h
    have own := sub_enumerate
    have go : ∀ {A' : Around} {E : Value → Shared → Prop} {Q : Value → Shared → Prop}, Q (.ref hp.objs.size) ⟨hp.push (tiO t), g, d, tk, os⟩ → wpAny (model prog w) A' (pyIter (.ref t)) Q E ⟨hp, g, d, tk, os⟩ := fun q => wpAny_pyIter_tuple hT q
    wp_walk using go
    refine wpAny_stack_any fun st => wpAny_pure ?_
    split
    · rename_i c _ _ _ _ _
      cases (c == Value.type "enumerate") <;> (wp_walk using go; exact ⟨_, rfl, h⟩)
    · wp_walk using go; exact ⟨_, rfl, h⟩
theorem enum_tup {prog : Program} {w : World} {A : Around} {E : Value → Shared → Prop} {s : Shared} {t : Addr} {items : Array Value} {Q : Value → Shared → Prop} (hT : s.heap.IsTuple t items)
    (h : ∀ h', IsEnum h' (s.heap.objs.size + 1) s.heap.objs.size 0 .none → h'.IsTupleIter s.heap.objs.size t 0 → (∀ b o, s.heap.get? b = some o → h'.get? b = some o) → Q (.ref (s.heap.objs.size + 1)) { s with heap := h' }) :
    wpAny (model prog w) A (PySem.call (.type "enumerate") [.ref t]) Q E s := by
  refine callType_new F.called_enumerate (by decide) (F.typeCall_enumerate_1 _) (F.newCall_enumerate_1 _) (fun obj => F.args_object_init_2 obj _) F.entry_enumerate_new (enum_tup_new t items) ⟨hT, ?_⟩
  have hz : (s.heap.push (tiO t)).objs.size = s.heap.objs.size + 1 := Heap.size_push ..
  show _ ∧ _
  rw [hz]
  have he : IsEnum ((s.heap.push (tiO t)).push (enO s.heap.objs.size)) (s.heap.objs.size + 1) s.heap.objs.size 0 .none := by
    have := Heap.get?_push_size (s.heap.push (tiO t)) (o := enO s.heap.objs.size) rfl
    rwa [hz] at this
  exact ⟨⟨_, he, rfl⟩, h _ he ⟨_, Heap.get?_push_of_some _ (Heap.get?_push_size _ rfl), rfl, rfl⟩ fun b o x => Heap.get?_push_of_some _ (Heap.get?_push_of_some _ x)⟩
def Iet (K : PySem.W.Frag) (a : Addr) : It :=
  ⟨fun i H => ∃ (xs : List V) (x : V), SqT K H a xs ∧ xs[i]? = some x, fun i H v H' => ∃ T x, v = .ref T ∧ H T = none ∧ H' = upd H T (.tup [.int (i : Nat), x]) ∧ ∀ xs, SqT K H a xs → xs[i]? = some x, fun i H => ∃ xs : List V, SqT K H a xs ∧ xs.length ≤ i⟩
theorem turn_et {P : Program} {w : World} {K : PySem.W.Frag} {elts : List Expr} {kk : Nat} {tpos : PySem.Pos} (a e it : Addr) :
    Turn P w K (.Tuple elts kk tpos) (Iet K a) [e, it] e (fun i h => (∃ old, IsEnum h e it ((i : Nat) : Int) old) ∧ h.IsTupleIter it a i ∧ e ≠ it ∧ a ≠ it ∧ e ≠ a) where
  mem := by simp
  obj := fun i h ⟨⟨old, he⟩, ⟨o, ho, hc, hd⟩, _⟩ b hb => by
    have hb : b = e ∨ b = it := by simpa using hb
    rcases hb with z | z
    · rw [z]; exact ⟨_, he, fun v q => nomatch q⟩
    · rw [z]; exact ⟨o, ho, fun v q => by rw [hd] at q; cases q⟩
  keep := fun i h h' ⟨⟨old, he⟩, hi, hne⟩ k => ⟨⟨old, k e (by simp) _ he⟩, hi.at fun o q => k it (by simp) o q, hne⟩
  item := by
    intro X hP hw hK hc i pins s σ H E I hf ⟨⟨old, he⟩, hit, hne, hai, hea⟩ ⟨xs, x, hq, hx⟩
    subst hP hw hK
    obtain ⟨its, rv, p, hz⟩ := I.tuple hq
    obtain ⟨u, hu, ru⟩ := rv.get hx
    have lte : e < s.heap.objs.size := Heap.lt_size he
    have lti : it < s.heap.objs.size := by obtain ⟨_, q, _⟩ := hit; exact Heap.lt_size q
    have hp : s.heap.IsTuple a its.toArray := p
    have hlt : i < its.toArray.size := by rw [List.size_toArray]; exact (List.getElem?_eq_some_iff.mp hu).1
    refine wpAny_pyNext_enum_itemD (Draws.tuple (A := X.A.in1) (I.ok.hd hc) it a hai its.toArray) he ⟨hit, hp⟩ hlt hne (by simp [hne, hea]) fun x' h' tk hx' ho hit' hT hsz hk => ?_
    have ex : x' = u := by
      have hx' : its.toArray[i]? = some x' := hx'
      rw [List.getElem?_toArray, hu] at hx'
      exact (Option.some.inj hx').symm
    subst ex
    refine ⟨_, rfl, wpAny_letOwnedTupleGo_enum (s := { s with heap := h', toks := tk + 1 }) ho fun h'' he' sb => ?_⟩
    have hT2 : h''.get? s.heap.objs.size = some { cls := .type "tuple", data := .seq #[.int i tk, x'] } := (sb.2 _ (Nat.ne_of_gt lte)).trans hT
    have new : ObjOk X.prog X.w (upd H s.heap.objs.size (.tup [.int (i : Nat), x])) h'' s.heap.objs.size (.tup [.int (i : Nat), x]) :=
      ⟨by show 2 ≤ sizeLine; decide, [.int i tk, x'], .cons ⟨_, rfl⟩ (.cons ru .nil), ⟨_, hT2, rfl, _, rfl⟩⟩
    have I1 := I.turnedNew (t' := tk + 1) (ch := [e, it]) (fun b ob hb q => (sb.2 b (fun z => hb (by simp [z]))).trans (hk b ob (fun z => hb (by simp [z])) (fun z => hb (by simp [z])) q)) hf (Nat.le_refl _) new
    refine ⟨.ref s.heap.objs.size, _, I1, rfl, ⟨_, x, rfl, I.hok.fresh (Nat.le_refl _), rfl, fun ys hy => by rw [I.tuple_inj hy hq]; exact hx⟩, ⟨⟨x', ?_⟩, hit'.1.at fun o q => (sb.2 it (Ne.symm hne)).trans q, hne, hai, hea⟩, fun b hb => ?_⟩
    · rw [show ((i + 1 : Nat) : Int) = (i : Int) + 1 by omega]; exact he'
    · have hb' : b < s.heap.objs.size := by
        have e' : b = e ∨ b = it := by simpa using hb
        rcases e' with z | z
        · rw [z]; exact lte
        · rw [z]; exact lti
      rw [upd_ne (Nat.ne_of_lt hb')]
      exact (hf b hb).1
  done := by
    intro X hP hw hK hc i pins s σ H E I hf ⟨⟨old, he⟩, hit, hne, hai, hea⟩ ⟨xs, hq, hx⟩
    subst hP hw hK
    obtain ⟨its, rv, p, hz⟩ := I.tuple hq
    obtain ⟨f0, f1, f2, f3, f4, f5⟩ := hf it (by simp)
    have hp : s.heap.IsTuple a its.toArray := p
    have hl := rv.length
    have hle : its.toArray.size ≤ i := by rw [List.size_toArray]; omega
    have D : Draws X.prog X.w X.A.in1 it [it, a] i (fun _ _ => True) (fun j h => j = i ∧ h.IsTupleIter it a i ∧ h.IsTuple a its.toArray) := {
      live := fun _ _ st => let ⟨o, ho, _⟩ := st.2.1; ⟨o, ho⟩
      frame := fun _ _ _ st hk => ⟨st.1, st.2.1.at fun o e => hk it (by simp) o e, st.2.2.at fun o e => hk a (by simp) o e⟩
      item := fun j s Q E hj st _ => absurd st.1 (Nat.ne_of_lt hj)
      done := fun s Q E st hE => wpAny_nextOf_tuple_end (I.ok.hd hc) st.2.1 st.2.2 (by rw [Array.getElem?_eq_none]; exact hle) hE }
    exact wpAny_pyNext_enum_endD D he ⟨rfl, hit, hp⟩ fun h' eb => ⟨rfl, I.turned (t' := s.toks) (fun b o hb q => eb b o hb q) f0 f1 f3 f4 f5⟩
  self := fun A i s Q E st h => let ⟨⟨_, he⟩, _⟩ := st; wpAny_pyIter_enum he h
section
variable {X : Cx}
def iEnumT (K : PySem.W.Frag) (ta : TA) : TI := fun σ H R => ta σ H fun vs H1 => ∃ a xs, vs = [.ref a] ∧ SqT K H1 a xs ∧ R (Iet K a) H1
theorem pi_enumT {e : Expr} {ta : TA} {p pos tpos : PySem.Pos} {elts : List Expr} {kk : Nat} (hg : Gl X "enumerate") (hm : X.mg "enumerate" = none) (ha : PA X [e] ta) (hs : starEach [e] X.env = [(false, eval e X.env)] := by rfl) :
    PI X (.Tuple elts kk tpos) (.Call (.Name "enumerate" p) [e] [] pos) (iEnumT X.K ta) := by
  refine ⟨fun pins s σ H R I h => Call_ (ld_blt I hg hm boot_enumerate (callWith_type1 (thn (ha.run pos pins s σ H _ I h) fun us s1 ⟨vs, H1, I1, r1, q1⟩ => ?_) hs rfl))⟩
  obtain ⟨a, xs, ex, hq, q⟩ := q1
  subst ex
  cases r1 with
  | cons r rr =>
    cases rr
    cases r
    obtain ⟨its, rv, p', hz⟩ := I1.tuple hq
    have hp : s1.heap.IsTuple a its.toArray := p'
    have la : a < s1.heap.objs.size := by obtain ⟨o, ho, _⟩ := hp; exact Heap.lt_size ho
    refine enum_tup hp fun h' he hit hk => wpAny_pyIter_enum he ?_
    have I2 := I1.kept (t' := s1.toks) hk
    refine ⟨s1.heap.objs.size + 1, [s1.heap.objs.size + 1, s1.heap.objs.size], _, _, H1, rfl, I2, turn_et a (s1.heap.objs.size + 1) s1.heap.objs.size, ⟨⟨.none, he⟩, hit, Nat.succ_ne_self _, Nat.ne_of_lt la, Nat.ne_of_gt (Nat.lt_succ_of_lt la)⟩, fun b hb => ?_, q⟩
    have e' : b = s1.heap.objs.size + 1 ∨ b = s1.heap.objs.size := by simpa using hb
    have hle : s1.heap.objs.size ≤ b := by
      rcases e' with z | z
      · rw [z]; exact Nat.le_add_right _ _
      · rw [z]; exact Nat.le_refl _
    exact I1.fpOk hle (I1.hok.fresh hle)
end
def pairs (ds : List PyData) : List PyData := (List.range ds.length).map fun i => .tuple [.int (i : Nat), ds.getD i .none]
theorem ei_enumT {Γ : Ge} {targ : TA} {ds : List PyData} {K : PySem.W.Frag} (h : EvA targ Γ [.tuple ds]) : EvI (iEnumT K targ) Γ (pairs ds) := fun k hp σ s E R q => h k hp σ s E _ fun vs k' h' l r => by
  obtain ⟨v, rfl, r1⟩ := r.one_inv
  obtain ⟨p, xs, rfl, e2, rx⟩ := r1.tuple_inv
  have hz : (pairs ds).length = ds.length := by unfold pairs; rw [List.length_map, List.length_range]
  refine ⟨p, xs, rfl, .inl (.inl (l.kh _ _ e2)), q _ k' h' l ⟨fun i k2 h2 hi s1 s2 => ?_, fun i d k2 h2 x h3 e s1 s2 y => ?_, fun k2 h2 s1 s2 => ?_⟩⟩
  · rw [hz] at hi
    exact ⟨xs, xs[i]'(by rw [rx.length]; exact hi), .inl (.inl (s2 _ _ (s1 _ _ e2))), List.getElem?_eq_getElem _⟩
  · obtain ⟨T, x1, rfl, nT, rfl, f1⟩ := y
    have hi : i < ds.length := by
      have := (List.getElem?_eq_some_iff.mp e).1
      rwa [hz] at this
    have e' : d = .tuple [.int (i : Nat), ds[i]'hi] := by
      unfold pairs at e
      rw [List.getElem?_map, List.getElem?_range hi] at e
      have := (Option.some.inj e).symm
      rw [this]
      show PyData.tuple [.int (i : Nat), ds.getD i .none] = _
      rw [List.getD_eq_getElem?_getD, List.getElem?_eq_getElem hi]
      rfl
    subst e'
    obtain ⟨v1, g1, w1⟩ := rx.got (List.getElem?_eq_getElem hi)
    have q1 : v1 = x1 := Option.some.inj (g1.symm.trans (f1 xs (.inl (.inl (s2 _ _ (s1 _ _ e2))))))
    subst q1
    have sn : Same k' (upd k2 T (.tup [.int (i : Nat), v1])) := s1.trans (same_new (s2.free nT))
    exact ⟨upd k2 T (.tup [.int (i : Nat), v1]), Le.new s2 nT, .tup upd_same (.cons (.int _) (.one (w1.mono sn)))⟩
  · exact ⟨xs, .inl (.inl (s2 _ _ (s1 _ _ e2))), by rw [hz, rx.length]; exact Nat.le_refl _⟩
end Bx
namespace Bx
open PySem PySem.Spec L2 PyProof.Rows
/-! ### set(a list of numbers) -/
/-- the new set's object -/
abbrev nsO (w : World) : Obj := { cls := .type "set", dict := none, data := .set #[] 0 (.fresh 0 0 (!w.params.followText "set-order")) }
abbrev nsH (w : World) (s : Shared) : Heap := s.heap.push (nsO w)
section
variable {P : Program} {w : World} {A : Around} {E : Value → Shared → Prop} {s : Shared}
theorem set_of_list {l : Addr} {items : Array Value} (ns : List Int) {Q : Value → Shared → Prop} (hh : A.handled = none) (hl : s.heap.IsList l items) (hit : IntsAre items.toList ns) (hb : ns.length + 1 < scanBound)
    (fin : ∀ (h' : Heap) (tk c : Nat), SetR w h' s.heap.objs.size (fun j => decide (j ∈ ns)) c → c ≤ ns.length → (∀ b o, s.heap.get? b = some o → h'.get? b = some o) → Q (.ref s.heap.objs.size) { s with heap := h', toks := tk }) :
    wpAny (model P w) A (PySem.call (.type "set") [.ref l]) Q E s := by
  have size : items.size = ns.length := by have q := IntsAre.length hit; rwa [Array.length_toList] at q
  obtain ⟨c, tl, mro⟩ := F.called_set.mro
  have k1 := F.called_set.made
  have k2 := F.called_set.sub
  refine wpAny_call (codeAny_of_tree (show wpAny _ _ (callAny (.type "set") _) _ _ _ from wpAny_pure ⟨Code.quiet_builtin _ (by decide +kernel), codeAny_builtin F.entry_type_call ?_⟩))
  rw [Around.under_plain (weight_type_call_type "set" [.ref l] []) rfl]
  have k3 := F.called_set.notType
  have k4 := F.called_set.canCreate
  have k5 := F.typeCall_set_1 (.ref l)
  repeat (any_goals (first | assumption | wp_step))
  have S0 : (nsH w s).get? s.heap.objs.size = some (nsO w) := Heap.get?_push_size _ rfl
  refine codeAny_mono (code_set_led1 (.ref l) (E := E) (Q₁ := fun ob s1 => ob = .ref s.heap.objs.size ∧ s1 = { s with heap := nsH w s }) ⟨rfl, rfl⟩) fun r s1 hr => ?_
  cases r with
  | error e => exact hr
  | ok fl =>
    cases fl with
    | next => exact hr.elim
    | brk => exact hr.elim
    | cont => exact hr.elim
    | ret ob =>
      obtain ⟨rfl, rfl⟩ := hr
      have T0 : Shared.TypeIs { s with heap := nsH w s } (.ref s.heap.objs.size) "set" := ⟨_, S0, rfl⟩
      have k6 := F.called_set.init.lookup
      have k7 := F.called_set.init.bind (.ref s.heap.objs.size)
      repeat (any_goals (first | assumption | wp_step))
      refine codeAny_mono (codeAny_call_builtin (R := wants (fun r s2 => r = .none ∧ ∃ h' tk c, s2 = { s with heap := h', toks := tk } ∧ SetR w h' s.heap.objs.size (fun j => decide (j ∈ ns)) c ∧ c ≤ ns.length ∧ ∀ b o, s.heap.get? b = some o → h'.get? b = some o) E)
        F.called_set.init.plain F.entry_set_init (check_set_init_1 T0 ?_)) fun r2 s2 h2 => ?_
      · obtain ⟨⟨oc, od, dt, sl⟩, ho, hc, n, hd⟩ := hl
        simp only at hc hd
        subst hc hd
        have l0 : (nsH w s).get? l = some ⟨.type "list", od, .seq items n, sl⟩ := Heap.get?_push_of_some _ ho
        have j1 := F.sub_list_set
        have j2 := F.sub_list_frozenset
        have j3 : (Value.type "list" == Value.type "dict") = false := by decide
        have L0 : (nsH w s).IsList l items := ⟨_, l0, rfl, n, rfl⟩
        have ll : l < s.heap.objs.size := Heap.lt_size ho
        have z1 : (nsH w s).objs.size = s.heap.objs.size + 1 := Heap.size_push ..
        unfold Builtin.«set.__init__» noKeywords Builtin.Frozenset.updateFrom
        generalize hPI : pyIter = PI
        wp_walk
        subst hPI
        refine wpAny_pyIter_list L0 (wpAny_bind (wpAny_runValue ?_))
        have h3 : A.in1.in1.in1.handled = none := hh
        have neI : l ≠ (nsH w s).objs.size := by rw [z1]; exact Nat.ne_of_lt (Nat.lt_succ_of_lt ll)
        have apart : s.heap.objs.size ∉ [(nsH w s).objs.size, l] := by
          rw [z1]; simp only [List.mem_cons, List.not_mem_nil, or_false, not_or]
          exact ⟨Nat.ne_of_lt (Nat.lt_succ_self _), Nat.ne_of_gt ll⟩
        have val : ∀ (i : Nat) (v : Value), items[i]? = some v → ∃ k t, ns[i]? = some k ∧ v = .int k t := fun i v hv => by
          have hi : i < ns.length := by rw [← size]; exact (Array.getElem?_eq_some_iff.mp hv).1
          obtain ⟨t, e⟩ := IntsAre.int_at hit i v (by rw [Array.getElem?_toList]; exact hv)
          exact ⟨ns[i], t, List.getElem?_eq_getElem hi, by rw [e, List.getD_eq_getElem?_getD, List.getElem?_eq_getElem hi] <;> rfl⟩
        refine set_update_ints ((Walks.list h3 _ l neI items).toS) s.heap.objs.size apart ns size hb val (items.size - 0) 0 _ (by omega) (Nat.zero_le _) ⟨⟨_, Heap.get?_push_size _ rfl, rfl, rfl⟩, L0.push _⟩ ⟨0, Nat.le_refl 0, setR_new_at (Heap.get?_push_of_some _ S0)⟩ ?_
        intro s' c' hm hc' hS'
        obtain ⟨h', g2, d', tk', os'⟩ := s'
        obtain rfl : g2 = s.gens := hm.gens
        obtain rfl : d' = s.drawn := hm.drawn
        obtain rfl : os' = s.os := hm.os
        refine wpAny_pure (show wpAny _ _ (ret Value.none) _ _ _ from wpAny_pure ⟨rfl, h', tk', c', rfl, hS', by rwa [size] at hc', fun b o e => ?_⟩)
        have b0 : b < s.heap.objs.size := Heap.lt_size e
        refine hm.heap b o ?_ (Heap.get?_push_of_some _ (Heap.get?_push_of_some _ e))
        rw [show ({ s with heap := nsH w s } : Shared).heap.objs.size = s.heap.objs.size + 1 from z1]
        simp only [List.mem_cons, List.not_mem_nil, or_false, not_or]
        exact ⟨Nat.ne_of_lt b0, Nat.ne_of_lt (Nat.lt_succ_of_lt b0)⟩
      · cases r2 with
        | error e => exact h2
        | ok f2 =>
          cases f2 with
          | next => exact h2.elim
          | brk => exact h2.elim
          | cont => exact h2.elim
          | ret r =>
            obtain ⟨rfl, h', tk, c', rfl, q1, q2, q3⟩ := h2
            repeat (any_goals (first | assumption | wp_step))
            exact fin _ _ _ q1 q2 q3
end
section
variable {X : Cx}
def rSetL' (K : PySem.W.Frag) (w : World) : List V → Hp → VK → Prop := fun xs H Q => ∃ (l : Addr) (ns : List Int), xs = [.ref l] ∧ SqL K H l (ns.map V.int) ∧ ns.length ≤ 60 ∧ ∀ p c, H p = none → c ≤ ns.length → Q (.ref p) (upd H p (SetO w p (fun j => decide (j ∈ ns)) c))
theorem cr_setL (hc : X.calm = true) : CallR X (.type "set") (rSetL' X.K X.w) := by
  intro pins s σ H xs us Q I r ⟨l, ns, e, hs, hl, q⟩
  subst e
  cases r with
  | cons r rr =>
    cases rr
    cases r
    obtain ⟨its, rv, p, _⟩ := I.list hs
    refine set_of_list ns (I.ok.hd hc) p.isList (by simpa using ints_of_vals rv) (by unfold scanBound; omega) fun h' tk c R hcn k => ?_
    exact ⟨.ref _, _, I.laid (t' := tk) k (Nat.le_refl _) (setO_new R), rfl, q _ c (I.hok.fresh (Nat.le_refl _)) hcn⟩
end
/-- what sorted(set(..)) gives: the one ascending list with these members -/
theorem asc_unique : ∀ {xs ys : List Int}, xs.Pairwise (· < ·) → ys.Pairwise (· < ·) → (∀ k, k ∈ xs ↔ k ∈ ys) → xs = ys
  | [], [], _, _, _ => rfl
  | [], y :: _, _, _, h => absurd ((h y).mpr List.mem_cons_self) (by simp)
  | x :: _, [], _, _, h => absurd ((h x).mp List.mem_cons_self) (by simp)
  | x :: xs, y :: ys, h1, h2, h => by
    obtain ⟨a1, b1⟩ := List.pairwise_cons.mp h1
    obtain ⟨a2, b2⟩ := List.pairwise_cons.mp h2
    have e : x = y := by
      rcases List.mem_cons.mp ((h x).mp List.mem_cons_self) with e | m
      · exact e
      · rcases List.mem_cons.mp ((h y).mpr List.mem_cons_self) with e | m'
        · exact e.symm
        · have := a2 x m; have := a1 y m'; omega
    subst e
    refine congrArg _ (asc_unique b1 b2 fun k => ⟨fun m => ?_, fun m => ?_⟩)
    · rcases List.mem_cons.mp ((h k).mp (List.mem_cons_of_mem _ m)) with e | m'
      · have := a1 k m; omega
      · exact m'
    · rcases List.mem_cons.mp ((h k).mpr (List.mem_cons_of_mem _ m)) with e | m'
      · have := a2 k m; omega
      · exact m'
theorem ev_sortset {Γ : Ge} {te : TE} {ns ms : List Int} {K : PySem.W.Frag} {w : World} (h : EvD te Γ (.list (ns.map PyData.int))) (hl : ns.length ≤ 60) (asc : ms.Pairwise (· < ·)) (mem : ∀ k, k ∈ ms ↔ k ∈ ns) :
    EvD (tCB (rSortedSet w) (tCons (tCB (rSetL' K w) (tCons te tNil)) tNil)) Γ (.list (ms.map PyData.int)) := fun k hp σ s E Q q => h k hp σ s E _ fun v k1 h1 l1 r => by
  obtain ⟨p, xs, rfl, e2, rx⟩ := r.list_inv
  have e := rx.ints
  subst e
  refine ⟨p, ns, rfl, .inl (.inl (l1.kh _ _ e2)), hl, fun a c na hc => ⟨a, _, c, rfl, upd_same, by omega, fun ns' b h1' h2' h3' nb => ?_⟩⟩
  have em : ns' = ms := asc_unique h1' asc fun k => by rw [h2', mem]; exact decide_eq_true_iff
  subst em
  have g1 : Le k1 h1 k1 (upd h1 a (SetO w a (fun j => decide (j ∈ ns)) c)) := .grow l1.kh (same_new na)
  have g2 := Le.new (o := .lst (ns'.map V.int)) g1.kh nb
  exact q _ _ _ ((l1.trans g1).trans g2) (.lst upd_same (DqAll.ofInts ns'))
end Bx
namespace Bx
open PySem PySem.Spec L2 PyProof.Rows
/-! ### a tuple once -/
theorem tup_once (l : Addr) (items : Array Value) (n : Nat) (dd : Option Addr) (sl : Array (Option Value)) (u : Tok) :
    Meets (Builtin.«tuple.__mul__» ⟨[.ref l, .int 1 u], []⟩) (fun _ R s => s.heap.get? l = some { cls := .type "tuple", dict := dd, data := .seq items n, slots := sl } ∧ R (.ok (.ret (.ref l))) s) :=
  .of_wp fun prog w A R s ⟨hl, h⟩ => by
    obtain ⟨hp, g, d, tk, os⟩ := s
    have f1 := AutoSeq1.idx_int
    have c1 : (items.isEmpty || (1 : Int) == 1) = true := by rw [show ((1 : Int) == 1) = true from rfl, Bool.or_true]
    wp_walk using wpAny_loadPart' hl
    exact ⟨_, rfl, h⟩
/-- tuple * n, also once -/
def rMulT (K : PySem.W.Frag) : R2 := fun x y H Q => ∃ (l : Addr) (k : Nat) (xs : List V), x = .ref l ∧ y = .int k ∧ SqT K H l xs ∧ xs ≠ [] ∧ 1 ≤ k ∧ k ≤ 1000 ∧ xs.length ≤ 1000 ∧ (k = 1 → Q (.ref l) H) ∧ (k ≠ 1 → ∀ p, H p = none → Q (.ref p) (upd H p (.tup (List.replicate k xs).flatten)))
section
variable {X : Cx}
theorem op_mulT : OpR X (binaryOp .Mult) (rMulT X.K) := by
  intro pins s σ H x y v u Q I rx ry ⟨l, k, xs, e1, e2, hT, hne, h1, h2, hz, q1, q2⟩
  by_cases hk : k = 1
  · subst e1 e2 hk
    cases rx
    obtain ⟨t, rfl⟩ := ry
    obtain ⟨its, r, ⟨⟨cls, dd, data, sl⟩, ho, hc, n, hd⟩, hs⟩ := I.tuple hT
    simp only at hc hd
    subst hc hd
    exact wpAny_binaryOp_repeat_ref (T := "tuple") (U := "int") (by decide) ⟨_, ho, rfl⟩ (fun s' => typeIs_int s' 1 t) noFill_tuple_mul F.fills_int_mul F.slot_int_rmul repeat_tuple F.slot_int_index.lookup
      (call_meets F.slot_int_rmul (typeIs_int s 1 t) F.entry_int_rmul (F.args_int_rmul_2 _ _) (int_rmul_tuple 1 t l its.toArray n dd sl)
        ⟨ho, rfl, ⟨_, ho, rfl⟩, call_meets F.slot_tuple_mul ⟨_, ho, rfl⟩ F.entry_tuple_mul (F.args_tuple_mul_2 _ _) (tup_once l its.toArray n dd sl t) ⟨ho, ⟨.ref l, H, I, rfl, q1 rfl⟩⟩⟩)
  · exact op_repT pins s σ H x y v u Q I rx ry ⟨l, (k : Int), xs, e1, e2, hT, hne, by omega, by omega, hz, q2 hk⟩
end
theorem DqAll.rep {k : Hp} {vs : List V} {ds : List PyData} (r : DqAll k vs ds) : ∀ n : Nat, DqAll k (List.replicate n vs).flatten (List.replicate n ds).flatten
  | 0 => .nil
  | n + 1 => by
    rw [List.replicate_succ, List.replicate_succ, List.flatten_cons, List.flatten_cons]
    exact r.append (DqAll.rep r n)
theorem od_mulT {ds : List PyData} {n : Nat} {K : PySem.W.Frag} (h0 : ds ≠ []) (h1 : 1 ≤ n) (h2 : n ≤ 1000) (h3 : ds.length ≤ 1000) : OpD (rMulT K) (.tuple ds) (.int n) (.tuple (List.replicate n ds).flatten) := fun k h x y s rx ry Q q => by
  obtain ⟨p, xs, e1, e2, r⟩ := rx.tuple_inv
  refine ⟨p, n, xs, e1, ry.int_inv, .inl (.inl (s _ _ e2)), fun z => h0 (by subst z; cases r; rfl), h1, h2, by rw [r.length]; exact h3, fun e => ?_, fun _ c nc => q _ _ _ (.new s nc) (.tup upd_same ((r.rep n).mono (same_new (s.free nc))))⟩
  subst e
  have : (List.replicate 1 ds).flatten = ds := by simp
  rw [this] at q
  exact q _ k h (.refl s) (.tup e2 r)

/-! ### two clauses -/
def PlainG (Γ : Ge) : Prop := ∀ (j : Nat) s, Γ[j]? = some s → s = .non ∨ ∃ d, s = .dat d
theorem PlainG.env {Γ : Ge} {k h k' h' : Hp} {σ : L2.St} (p : PlainG Γ) (E : Env k h σ Γ) (s : Same k k') : Env k' h' σ Γ where
  len := E.len
  ok := fun i sl e => by
    obtain ⟨v, e1, ok⟩ := E.ok i sl e
    refine ⟨v, e1, ?_⟩
    rcases p i sl e with rfl | ⟨d, rfl⟩
    · trivial
    · obtain ⟨u, e2, r⟩ := ok; exact ⟨u, e2, r.mono s⟩
  own := E.own
theorem PlainG.wipe {Γ : Ge} (p : PlainG Γ) : ∀ vs : List Nat, PlainG (wipeG Γ vs)
  | [] => p
  | v :: vs => fun j s e => by
    have e : ((wipeG Γ vs).set v .non)[j]? = some s := e
    by_cases hv : v = j
    · subst hv
      by_cases hl : v < (wipeG Γ vs).length
      · rw [List.getElem?_set_self hl] at e; cases e; exact .inl rfl
      · rw [List.getElem?_eq_none (by rw [List.length_set]; omega)] at e; cases e
    · rw [List.getElem?_set_ne hv] at e
      exact PlainG.wipe p vs j s e
theorem PlainG.tgt {g : TG} {d : PyData} {js : List Nat} {Γ Γ' : Ge} (p : PlainG Γ) (h : EvG g d js Γ Γ') : PlainG Γ' := fun j s e => by
  by_cases hj : j ∈ js
  · exact .inr (h.dat j s hj e)
  · rw [h.keep j hj] at e; exact p j s e
theorem plainG_of {Γ : Ge} (h : (List.range Γ.length).all (plainAt Γ) = true) : PlainG Γ := fun j s e => by
  have hj : j < Γ.length := (List.getElem?_eq_some_iff.mp e).1
  have := List.all_eq_true.mp h j (List.mem_range.mpr hj)
  unfold plainAt at this
  rw [e] at this
  cases s with
  | non => exact .inl rfl
  | dat d => exact .inr ⟨d, rfl⟩
  | mu ds => cases this
  | hp a c => cases this
theorem el_lc2 {α β : Type} {Γ : Ge} {wi wi1 : TI} {g g1 : TG} {t1 : TT} {te : TE} {vs vs1 : List Nat} (xs : List α) (ys : List β) (enc : α → PyData) (enc1 : β → PyData) (f : α → β → Bool) (e : α → β → PyData)
    (hi : EvI wi Γ (xs.map enc)) (pl : PlainG Γ) (hx : xs.length ≤ 100) (hy : ys.length ≤ 100)
    (step : ∀ x ∈ xs, ∃ Γ2 js, EvG g (enc x) js (wipeG Γ vs) Γ2 ∧ js.all (vs.contains ·) = true ∧ EvI wi1 Γ2 (ys.map enc1) ∧
      ∀ y ∈ ys, ∃ Γ3 js1, EvG g1 (enc1 y) js1 (wipeG Γ2 vs1) Γ3 ∧ js1.all (vs1.contains ·) = true ∧ EvT t1 Γ3 (f x y) ∧ (f x y = true → EvD te Γ3 (e x y))) :
    EvL (tLc2 wi g tYes wi1 g1 t1 te vs vs1) Γ (xs.flatMap fun x => (ys.filter (f x)).map (e x)) := fun k hp σ s E Q q => hi k hp σ s E _ fun J k1 h1 l1 ok D hD => by
  have nD : hp D = none := l1.same.free hD
  have hxl : (xs.map enc).length = xs.length := List.length_map ..
  have hyl : (ys.map enc1).length = ys.length := List.length_map ..
  let A : Nat → List PyData := fun i => (xs.take i).flatMap fun x => (ys.filter (f x)).map (e x)
  have hA : ∀ i, (A i).length ≤ i * 100 := fun i => by
    show ((xs.take i).flatMap fun x => (ys.filter (f x)).map (e x)).length ≤ i * 100
    have : ∀ l : List α, (l.flatMap fun x => (ys.filter (f x)).map (e x)).length ≤ l.length * 100 := fun l => by
      induction l with
      | nil => exact Nat.le_refl _
      | cons a r ih =>
        rw [List.flatMap_cons, List.length_append, List.length_map, List.length_cons]
        have := List.length_filter_le (f a) ys
        omega
    refine Nat.le_trans (this _) (Nat.mul_le_mul_right _ ?_)
    rw [List.length_take]; exact Nat.min_le_left _ _
  let St2 : List PyData → Hp → Hp → Prop := fun acc k' H' => ∃ us, Le k1 h1 k' H' ∧ k' D = none ∧ H' D = some (.lst us) ∧ DqAll k' us acc
  refine ⟨fun i m H' => m = xs.length - i ∧ i ≤ xs.length ∧ ∃ k', St2 (A i) k' H', ⟨xs.length, rfl, Nat.zero_le _, k1, [], le_write (.refl l1.kh) hD (l1.kh.free hD), l1.kh.free hD, upd_same, .nil⟩, fun i m H' hW => ?_⟩
  obtain ⟨rfl, hle, k', us, l', n', z', r'⟩ := hW
  by_cases hlt : i < xs.length
  · refine .inr ⟨ok.go i k' H' (by rw [hxl]; exact hlt) l'.kk l'.kh, fun H2 => ∃ k', St2 (A (i + 1)) k' H2, fun H2 w => ⟨xs.length - (i + 1), by omega, rfl, hlt, w⟩, fun x H2 y => ?_⟩
    have ed : (xs.map enc)[i]? = some (enc xs[i]) := by rw [List.getElem?_map, List.getElem?_eq_getElem hlt]; rfl
    obtain ⟨k2, l2, rx⟩ := ok.yld i _ k' H' x H2 ed l'.kk l'.kh y
    obtain ⟨Γ2, js, hg, hj0, hi1, hin⟩ := step xs[i] (List.getElem_mem _)
    have hj : ∀ j ∈ js, j ∈ vs := fun j z => by simpa using List.all_eq_true.mp hj0 j z
    have l3 := l'.then l2
    have E2 : Env k2 H2 σ Γ := pl.env E ((l1.kk.trans l'.kk).trans l2.kk)
    refine hg.run k2 H2 (L2.wipe σ vs) x l3.kh (E2.wipe vs) rx _ fun σ2 E3 ln kk => ⟨?_, ?_⟩
    · rw [← wipe_wipe σ vs]
      exact wipe_eq (by rw [ln, wipe_length]) fun j hj' => kk j fun z => hj' (hj j z)
    have p2 : PlainG Γ2 := (pl.wipe vs).tgt hg
    show wi1 σ2 H2 _
    refine hi1 k2 H2 σ2 l3.kh E3 _ fun J1 k3 h3 l4 ok1 => ?_
    have l5 := l3.trans l4
    have n3 : k3 D = none := l4.sp D (ne_none_of (l2.same _ _ z')) (l2.sp D (ne_none_of z') n')
    have z3 : h3 D = some (.lst us) := l4.same _ _ (l2.same _ _ z')
    let B : Nat → List PyData := fun j => A i ++ ((ys.take j).filter (f xs[i])).map (e xs[i])
    refine ⟨fun j m H' => m = ys.length - j ∧ j ≤ ys.length ∧ ∃ k', Same k3 k' ∧ St2 (B j) k' H', ⟨ys.length, rfl, Nat.zero_le _, k3, .refl _, us, l5, n3, z3, ?_⟩, fun j m H4 hW => ?_⟩
    · show DqAll k3 us (A i ++ [])
      rw [List.append_nil]
      exact r'.mono (l2.kk.trans l4.kk)
    obtain ⟨rfl, hle2, k4, s4, us4, m1, m2, m3, m4⟩ := hW
    by_cases hlt2 : j < ys.length
    · refine .inr ⟨ok1.go j k4 H4 (by rw [hyl]; exact hlt2) s4 m1.kh, fun H5 => ∃ k', Same k3 k' ∧ St2 (B (j + 1)) k' H5, fun H5 w => ⟨ys.length - (j + 1), by omega, rfl, hlt2, w⟩, fun x1 H5 y1 => ?_⟩
      have ed1 : (ys.map enc1)[j]? = some (enc1 ys[j]) := by rw [List.getElem?_map, List.getElem?_eq_getElem hlt2]; rfl
      obtain ⟨k5, l6, rx1⟩ := ok1.yld j _ k4 H4 x1 H5 ed1 s4 m1.kh y1
      obtain ⟨Γ3, js1, hg1, hj1, ht1, he1⟩ := hin ys[j] (List.getElem_mem _)
      have hj1' : ∀ j ∈ js1, j ∈ vs1 := fun j z => by simpa using List.all_eq_true.mp hj1 j z
      have l7 := m1.trans l6
      have E5 : Env k5 H5 σ2 Γ2 := p2.env E3 ((l4.kk.trans s4).trans l6.kk)
      have hq : ys.take (j + 1) = ys.take j ++ [ys[j]] := by rw [List.take_add_one, List.getElem?_eq_getElem hlt2]; rfl
      refine hg1.run k5 H5 (L2.wipe σ2 vs1) x1 l7.kh (E5.wipe vs1) rx1 _ fun σ3 E6 ln1 kk1 => ⟨?_, ?_⟩
      · rw [← wipe_wipe σ2 vs1]
        exact wipe_eq (by rw [ln1, wipe_length]) fun j hj' => kk1 j fun z => hj' (hj1' j z)
      refine ht1 k5 H5 σ3 l7.kh E6 _ fun H6 g6 => ?_
      have l8 : Le k5 H5 k5 H6 := .grow l7.kh g6
      have n5 : k5 D = none := l6.sp D (ne_none_of m3) m2
      have z6 : H6 D = some (.lst us4) := g6 _ _ (l6.same _ _ m3)
      cases hb : f xs[i] ys[j] with
      | true =>
        refine he1 hb k5 H6 σ3 l8.kh (E6.le l8) _ fun yv k7 H7 l9 ry => ?_
        have z7 := l9.same _ _ z6
        have n7 := l9.sp D (ne_none_of z6) n5
        have hl : us4.length = (B j).length := m4.length
        have hB : (B j).length ≤ 20000 := by
          show (A i ++ ((ys.take j).filter (f xs[i])).map (e xs[i])).length ≤ 20000
          rw [List.length_append, List.length_map]
          have a1 := hA i
          have a2 := List.length_filter_le (f xs[i]) (ys.take j)
          rw [List.length_take] at a2
          omega
        refine ⟨us4, z7, by rw [hl]; exact Nat.lt_of_le_of_lt hB (by decide), k7, (s4.trans l6.kk).trans l9.kk, us4 ++ [yv], le_write ((l7.trans l8).trans l9) hD n7, n7, upd_same, ?_⟩
        have : B (j + 1) = B j ++ [e xs[i] ys[j]] := by
          show A i ++ ((ys.take (j + 1)).filter (f xs[i])).map (e xs[i]) = A i ++ ((ys.take j).filter (f xs[i])).map (e xs[i]) ++ _
          rw [hq, List.filter_append, List.map_append, List.filter_cons, if_pos hb, ← List.append_assoc]
          rfl
        rw [this]
        exact (m4.mono (l6.kk.trans l9.kk)).append (.one ry)
      | false =>
        refine ⟨k5, s4.trans l6.kk, us4, l7.trans l8, n5, z6, ?_⟩
        have : B (j + 1) = B j := by
          show A i ++ ((ys.take (j + 1)).filter (f xs[i])).map (e xs[i]) = _
          rw [hq, List.filter_append, List.map_append, List.filter_cons, if_neg (by rw [hb]; decide)]
          show A i ++ (_ ++ []) = _
          rw [List.append_nil]
        rw [this]
        exact m4.mono l6.kk
    · have ej : j = ys.length := by omega
      subst ej
      refine .inl ⟨by have := ok1.stop k4 H4 s4 m1.kh; rwa [hyl] at this, k4, us4, m1, m2, m3, ?_⟩
      have : A (i + 1) = B ys.length := by
        show (xs.take (i + 1)).flatMap _ = A i ++ _
        rw [List.take_add_one, List.getElem?_eq_getElem hlt, List.flatMap_append, List.take_length]
        show _ ++ List.flatMap _ [xs[i]] = _
        rw [List.flatMap_cons, List.flatMap_nil, List.append_nil]
      rw [this]
      exact m4
  · have ei : i = xs.length := by omega
    subst ei
    refine .inl ⟨by have := ok.stop k' H' l'.kk l'.kh; rwa [hxl] at this, q D us k' H' (l1.trans l') nD n' z' ?_⟩
    have : A xs.length = xs.flatMap fun x => (ys.filter (f x)).map (e x) := by show (xs.take xs.length).flatMap _ = _; rw [List.take_length]
    rw [← this]
    exact r'
end Bx
namespace Bx
open PySem PySem.Spec L2 PyProof.Rows
/-! ### defs that show things (repr): no repr runs around their calls -/
structure FnG (P : Program) (w : World) (K : PySem.W.Frag) (mg : PySem.Str → Option Value) (base : Heap) (k : Nat) (f : Addr) (fd : FuncData) (ps : List PySem.Str) (sp : Sp) : Prop where
  len : ∀ vs H Q E, sp vs H Q E → vs.length = ps.length
  run : ∀ (A : Around) (outer : List PySem.Env) (s : Shared) (H : Hp) (args : Args) (us : List Value) (vs : List V) (Q : VK) (E : XK), A.guards = some [] → Room k A → Env0 P w K mg base A outer s H → BindsTo s fd args (ps.zip us) → Vals vs us → sp vs H Q E →
    codeAny (model P w) A (.call (.ref f) args) (CR CX0 outer P w H s Q E) s
section
variable {P : Program} {w : World} {K : PySem.W.Frag} {mg : PySem.Str → Option Value} {base : Heap}
theorem fnG_of {x qual : PySem.Str} {st : Stmt} {f : Addr} {fd : FuncData} {N ps : List PySem.Str} {k : Nat} {sp : Sp} (F : Fun K x qual st f fd) (S : FnScope N ps (defScope st)) (len : ∀ vs H Q E, sp vs H Q E → vs.length = ps.length)
    (body : ∀ (cdv : Value) (A : Around) (outer : List PySem.Env) (s : Shared) (H : Hp) (vs : List V) (Q : VK) (E : XK), A.guards = some [] → Room k (A.deeper (envOfC qual (defScope st) s.heap.objs.size f cdv)) → sp vs H Q E →
      ∃ t, PSs (cxOf CX0 P w K mg base N qual (defScope st) f cdv A outer s H E).nox (defBody st) t ∧ t { nx := fun _ H' => Q .non H', rt := Q } (L2.start N vs) H) : FnG P w K mg base (k + 1) f fd ps sp := by
  obtain ⟨oc, od, kV, doc, pm, an, cdv, ct, osl, rfl, lk, hcd⟩ := F.ex
  refine ⟨len, fun A outer s H args us vs Q E hg hr e0 hb r hsp => ?_⟩
  have there := fun b o e => (e0.bs b o e).1
  have KX : K.In s.heap := e0.mod.kin.keeps there
  have par : ∀ y ∈ ps.zip us, (defScope st).names.lookup y.1 = some .local ∨ ((defScope st).names.lookup y.1 = some .cell ∧ ((cellsFrom (s.heap.objs.size + 1) (defScope st).names []).lookup y.1).isSome = true) := fun y hy =>
    (S.par y.1 (List.of_mem_zip (a := y.1) (b := y.2) hy).1).imp id fun q => ⟨q, PySem.W.cellsFrom_some _ _ _ (.inl q)⟩
  refine codeAny_call_function hr.depth (KX _ _ lk) rfl S.co S.gen rfl (PySem.W.codeRec_of KX hcd) (hb _ _ _ _ (wpAny_newFunctionEnv_cells S.kind par fun env he s1 x => ?_))
  subst he
  refine ⟨(e0.mod.nolimit.keeps there).keeps x.toInCall.keep, codeAny_func ?_⟩
  obtain ⟨t, ht, hq⟩ := body cdv A outer s H vs Q E hg (hr.deeper _) hsp
  refine wpAny_mono (ht.nox.run [] s1 (L2.start N vs) H _ (inv_start S hr.hd e0 (len _ _ _ _ hsp) r x) hq) (fun fl s' hs => ?_) fun e s' hs => hs
  cases fl with
  | ret u => obtain ⟨v, σ', H', J, rv, q⟩ := hs; exact ⟨v, H', J.os, J.bare, J.base, J.hok, rv, q⟩
  | next => obtain ⟨σ', H', J, q⟩ := hs; exact ⟨.non, H', J.os, J.bare, J.base, J.hok, rfl, q⟩
  | brk => obtain ⟨_, _, _, q⟩ := hs; exact q.elim
  | cont => obtain ⟨_, _, _, q⟩ := hs; exact q.elim
end
section
variable {X : Cx} {k : Nat} {f : Addr} {fd : FuncData} {ps : List PySem.Str} {sp : Sp} {E : XK} {x : PySem.Str} {p pos : PySem.Pos} {e : Expr} {es : List Expr} {t : TA}
theorem pe_callG (F : FnG X.prog X.w X.K X.mg X.base k f fd ps sp) (gu : X.A.guards = some []) (hr : Room k X.A) (hg : Gl X x) (hm : X.mg x = some (.ref f)) (hk : PySem.W.keepIn X.K (.ref f) = true) (hb : Binds X.K fd ps []) (ha : PA X (e :: es) t)
    (hdb : (x == ("__debug__" : PySem.Str)) = false := by decide) (he : starEach (e :: es) X.env = (false, eval e X.env) :: starEach es X.env := by rfl) (hpl : (backTo pos (starEach es X.env)).any (·.1) = false := by rfl) :
    PE X (.Call (.Name x p) (e :: es) [] pos) (tCall sp [] E t) := by
  refine ⟨fun pins s σ H Q I h => wpAny_Call_Name_kw (ld_glob I hg hm (PySem.W.callWith_K (h₀ := X.base) I.ok.mod.kin hk (thn (ha.run pos pins s σ H _ I h) fun us s1 ⟨vs, H1, I1, r, q⟩ => ⟨I1.kIn, ?_⟩) he hpl) hdb)⟩
  have q : sp (vs ++ []) H1 Q E := q
  rw [List.append_nil] at q
  have n : us.length = ps.length := by rw [← r.length]; exact F.len _ _ _ _ q
  have b := hb s1 us I1.kIn (by rw [List.append_nil]; exact n)
  rw [List.append_nil] at b
  refine wpAny_call (codeAny_mono (F.run X.A X.stack s1 H1 ⟨us, []⟩ us vs Q E gu hr I1.env0 b r q) fun r s' hq => ?_)
  cases r with
  | error e => exact hq.elim
  | ok fl =>
    cases fl with
    | ret u => exact I1.after hq
    | next => exact hq.elim
    | brk => exact hq.elim
    | cont => exact hq.elim
end
/-- the law's call, at the heap behind the top -/
theorem lawG {P : Program} {w : World} {K : PySem.W.Frag} {mg mb : PySem.Str → Option Value} {k : Nat} {fa a : Addr} {fd : FuncData} {x : PySem.Str} {sp : Sp} {s1 : Shared} {vs : List Value} {ns : List Int}
    (KX : K.In s1.heap) (hns : s1.heap.Ns mainGlobals mg) (hb : s1.heap.Ns builtinsNs mb) (hbb : ∀ x : PySem.Str, x ≠ "__name__" → mb x = bootBuiltins x) (lim : s1.heap.NoLimit) (hg : s1.gens = #[])
    (ha : s1.heap.get? a = some { cls := .type "list", data := .seq vs.toArray }) (hi : IntsAre vs ns) (hl : ns.length ≤ sizeLine) (hr : Room k callerA)
    (F : ∀ base : Heap, K.In base → base.Ns mainGlobals mg → FnG P w K mg base k fa fd [x] sp) (bind : ∀ (s : Shared) (u : Value), BindsTo s fd ⟨[u], []⟩ [(x, u)])
    (want : ∀ H : Hp, Only H → SqL K H a (ns.map V.int) → sp [.ref a] H (fun v _ => v = .bl true) fun _ _ _ => False) :
    codeAny (model P w) callerA (.call (.ref fa) ⟨[.ref a], []⟩) (fun r s' => r = .ok (.ret (.bool true)) ∧ OldK s1.heap s'.heap ∧ s'.os = s1.os ∧ AllBare s'.gens) s1 := by
  -- over an abstract heap that tracks the script at most
  have go : ∀ H : Hp, Only H → SqL K H a (ns.map V.int) → HOk P w H s1.heap → (∀ b, H b ≠ none → b = a ∧ K.lookup a = none) → codeAny (model P w) callerA (.call (.ref fa) ⟨[.ref a], []⟩) (fun r s' => r = .ok (.ret (.bool true)) ∧ OldK s1.heap s'.heap ∧ s'.os = s1.os ∧ AllBare s'.gens) s1 := fun H only sq hok at1 => by
    have kept : ∀ {b : Addr} {m : PySem.Str → Option Value}, s1.heap.Ns b m → (hidT s1.heap H).Ns b m := fun {b m} ⟨o, es, ep, e, d, r⟩ => by
      refine ⟨o, es, ep, hidT_get e ?_, d, r⟩
      cases q : H b with
      | none => rfl
      | some u =>
        have e' := (at1 b (by rw [q]; exact fun z => nomatch z)).1
        rw [e', ha] at e; cases e
        exact nomatch d
    have inK : K.In (hidT s1.heap H) := fun b o e => by
      refine hidT_get (KX b o e) ?_
      cases q : H b with
      | none => rfl
      | some u =>
        obtain ⟨e1, e2⟩ := at1 b (by rw [q]; exact fun z => nomatch z)
        rw [e1, e2] at e; cases e
    have md : Mod K mg (hidT s1.heap H) := ⟨inK, kept hns, ⟨mb, kept hb, hbb⟩, let ⟨mc, h1, h2⟩ := lim; ⟨mc, kept h1, h2⟩⟩
    have en : Env0 P w K mg (hidT s1.heap H) callerA [] s1 H := ⟨rfl, md, fun b o e => of_hidT e, Nat.le_of_eq (hidT_size _ _), trivial, fun b z => (by cases z), hok, .of_eq hg⟩
    refine codeAny_mono ((F _ inK (kept hns)).run callerA [] s1 H ⟨[.ref a], []⟩ [.ref a] [.ref a] _ _ rfl hr en (bind s1 (.ref a)) (.cons rfl .nil) (want H only sq)) fun r s' h => ?_
    cases r with
    | error e => exact h.elim
    | ok fl =>
      cases fl with
      | next => exact h.elim
      | brk => exact h.elim
      | cont => exact h.elim
      | ret u =>
        obtain ⟨v, H', os, bare, un, hok', r', q⟩ := h
        obtain rfl : v = .bl true := q
        obtain rfl : u = Value.bool true := r'
        refine ⟨rfl, OldK.of_keep fun b o e => ?_, os, bare⟩
        cases q : H b with
        | none => exact un.keep b o e q (fun z => by cases z) (fun z => by cases z)
        | some u =>
          rcases only b with z | ⟨ob, xs, z⟩
          · rw [q] at z; cases z
          · obtain ⟨e1, _⟩ := hok b _ z
            obtain ⟨e2, _⟩ := hok' b _ (un.frzs b ob _ z)
            rw [e] at e1; cases e1
            exact e2
  have rv := vals_ints hi
  cases hk : K.lookup a with
  | some o =>
    have e := KX a o hk
    rw [ha] at e
    cases e
    exact go (fun _ => none) (fun _ => .inl rfl) (.inr ⟨_, vs.toArray, _, hk, rfl, rfl, rfl, by rw [List.size_toArray, hi.length]; exact hl, by simpa using rv⟩) (fun b u z => nomatch z) fun b z => absurd rfl z
  | none =>
    let fz : HO := .frz { cls := .type "list", data := .seq vs.toArray } (.lst (ns.map V.int))
    have is : (fun b => if b = a then some fz else none) a = some fz := if_pos rfl
    refine go (fun b => if b = a then some fz else none) (fun b => ?_) (.inl (.inr ⟨_, is⟩)) (fun b u z => ?_) fun b z => ⟨?_, hk⟩
    · by_cases hb : b = a
      · exact .inr ⟨_, _, if_pos hb⟩
      · exact .inl (if_neg hb)
    · by_cases hb : b = a
      · have z' := (if_pos hb).symm.trans z
        cases z'
        rw [hb]
        exact ⟨ha, by rw [List.length_map]; exact hl, vs, _, rv, ha⟩
      · have z' := (if_neg hb).symm.trans z
        cases z'
    · by_cases hb : b = a
      · exact hb
      · exact absurd (if_neg hb) z
theorem walkG {l : PySem.W.OpenLaw} {n k : Nat} {q : Program} {loose : List PySem.Str} {XP : (PySem.Str → Option Value) → Heap → Prop} {YP : World → Heap → Prop} {d : DefRec} {K : Params → PySem.W.Frag} {sp : PySem.W.Frag → Sp} {x : PySem.Str}
    (hn : l.most = some n) (hn2 : n ≤ sizeLine) (hdf : d.params.defaults = []) (hr : Room k callerA) (hY : ∀ (w : World) (h : Heap), YP w h → (K w.params).In h)
    (F : ∀ (w : World) (mg : PySem.Str → Option Value) (fa : Addr) (h : Heap), (K w.params).In h → h.Ns mainGlobals mg → mg d.name = some (.ref fa) →
      ∃ fd : FuncData, (∀ (s : Shared) (u : Value), BindsTo s fd ⟨[u], []⟩ [(x, u)]) ∧ ∀ base : Heap, (K w.params).In base → base.Ns mainGlobals mg → FnG l.prog w (K w.params) mg base k fa fd [x] (sp (K w.params)))
    (hsp : ∀ (K : PySem.W.Frag) (H : Hp) (a : Addr) (ns : List Int), ns.length ≤ n → Only H → SqL K H a (ns.map V.int) → sp K [.ref a] H (fun v _ => v = .bl true) fun _ _ _ => False) :
    PySem.W.WalkO q loose XP YP l.row.toRowW d [] (fun f vs => PySem.call f vs) := by
  refine Att.attach_call hn hdf fun w s0 s1 mg mb fa o pm cd doc a vs ns G Y ho hd hcd hmg hobj hints hlen hg => ?_
  have KX := hY w _ Y
  obtain ⟨fd, hb, hF⟩ := F w mg fa _ KX G.T.g hmg
  exact lawG KX G.T.g G.T.b G.T.builtins G.T.nolimit hg hobj hints (Nat.le_trans hlen hn2) hr hF hb fun H hO hS => hsp _ H a ns hlen hO hS
end Bx
namespace Bx
open PySem PySem.Spec L2 PyProof.Rows
def topS (i : Nat) : Stmt := PySem.Challenge.pw_rowalone_k07_whole_boxes_as_their_points.main.body.getD i (.Pass ⟨0, 0, 0, 0⟩)

/-! ### a def as its callers see it -/
def gR : List Value → List Value → List Value
  | [], ws => ws.reverse
  | _ :: _, _ => []
def gRV : List V → List V → List V
  | [], ws => ws.reverse
  | _ :: _, _ => []
theorem Vals.rev : ∀ {vs : List V} {us : List Value}, Vals vs us → Vals vs.reverse us.reverse
  | _, _, .nil => .nil
  | _, _, .cons r t => by
    rw [List.reverse_cons, List.reverse_cons]
    exact (Vals.rev t).append (.cons r .nil)
structure Cal (P : Program) (w : World) (K : PySem.W.Frag) (mg : PySem.Str → Option Value) (base : Heap) (k : Nat) (x : PySem.Str) (ps : List PySem.Str) (sp : Sp) : Prop where
  ex : ∃ f fd, FnOk P w K mg base CX0 k f fd ps sp ∧ mg x = some (.ref f) ∧ PySem.W.keepIn K (.ref f) = true ∧ L2.Binds K fd ps [] ∧ KBinds K fd ps ps.reverse gR gRV
theorem Fun.kbR {K : PySem.W.Frag} {x qual : PySem.Str} {st : Stmt} {f : Addr} {fd : FuncData} {ps : List PySem.Str} (F : Fun K x qual st f fd) (h0 : ps ≠ [])
    (h : ∀ (kV doc pm : Value) (an : Option Addr) (cdv ct : Value) (ws : List Value), ws.length = ps.length → bindArgs (PySem.W.fnOf x qual (defArgs st) (defBody st) (defScope st) .none kV doc pm an cdv ct) ⟨[], ps.reverse.zip ws⟩ = pure (ps.zip ws.reverse)) : KBinds K fd ps ps.reverse gR gRV where
  to := fun s us ws _ hl => by
    obtain ⟨oc, od, kV, doc, pm, an, cdv, ct, osl, rfl, lk, hcd⟩ := F.ex
    cases us with
    | nil =>
      have hl : ws.reverse.length = ps.length := hl
      exact .of_eq (h kV doc pm an cdv ct ws (by rwa [List.length_reverse] at hl))
    | cons u r =>
      have hl : 0 = ps.length := hl
      exact absurd (List.eq_nil_of_length_eq_zero hl.symm) h0
  rel := fun {vs us zs ws} r rz => by
    cases r with
    | nil => exact Vals.rev rz
    | cons _ _ => exact .nil
section
variable {X : Cx} {k j : Nat} {x : PySem.Str} {ps : List PySem.Str} {sp : Sp} {p pos : PySem.Pos} {e : Expr} {es : List Expr} {t tk : TA} {kws : List Keyword}
theorem pe_calD (c : Cal X.prog X.w X.K X.mg X.base k x ps sp) (hr : Room j X.A) (hk : k ≤ j) (hg : Gl X x) (ha : PA X (e :: es) t) (hdb : (x == ("__debug__" : PySem.Str)) = false := by decide)
    (he : starEach (e :: es) X.env = (false, eval e X.env) :: starEach es X.env := by rfl) (hpl : (backTo pos (starEach es X.env)).any (·.1) = false := by rfl) : PE X (.Call (.Name x p) (e :: es) [] pos) (tCall sp [] E0 t) := by
  obtain ⟨f, fd, F, m, kp, b, _⟩ := c.ex
  exact pe_call F (hr.mono hk) hg m kp b .nil pass0 ha hdb he hpl
theorem pe_calK (c : Cal X.prog X.w X.K X.mg X.base k x ps sp) (hr : Room j X.A) (hk : k ≤ j) (hg : Gl X x) (hkw : PK X kws tk) (hall : (backToKw pos (keywordEach kws X.env)).all (·.1.isSome) = true := by rfl)
    (hks : (backToKw pos (keywordEach kws X.env)).filterMap (·.1) = ps.reverse := by rfl) (hdb : (x == ("__debug__" : PySem.Str)) = false := by decide)
    (hpl : ((backTo pos (starEach [] X.env)).any (·.1) || (backToKw pos (keywordEach kws X.env)).any (·.1.isNone)) = false := by rfl) : PE X (.Call (.Name x p) [] kws pos) (tCallK sp gRV E0 tNil tk) := by
  obtain ⟨f, fd, F, m, kp, _, b⟩ := c.ex
  exact pe_callK0 F (hr.mono hk) hg m kp b pass0 hkw hall hks hdb hpl
end
theorem ev_calK {Γ : Ge} {R : List PyData → PyData → Prop} {E : XK} {tk : TA} {es : List PyData} {d : PyData} (hk : EvA tk Γ es) (hr : R es.reverse d) : EvD (tCallK (spD R) gRV E tNil tk) Γ d :=
  ev_callK ea_nil hk (fun k vs zs r1 r2 => by cases r1; exact r2.reverse) hr
theorem room65 {k : Nat} {A : Around} (r : Room k A) : A.units + 65 < cLine := by have := r.un; omega
/-- the built-ins' names: none is stored at the top -/
structure Blt (mg : PySem.Str → Option Value) : Prop where
  abs : mg "abs" = none
  int : mg "int" = none
  len : mg "len" = none
  min : mg "min" = none
  max : mg "max" = none
  any : mg "any" = none
  all : mg "all" = none
  tuple : mg "tuple" = none
  range : mg "range" = none
  enumerate : mg "enumerate" = none
  zip : mg "zip" = none
  isinstance : mg "isinstance" = none
  repr : mg "repr" = none
  sorted : mg "sorted" = none
  set : mg "set" = none
  list : mg "list" = none
  str : mg "str" = none
  bool : mg "bool" = none
theorem ev_listRg {Γ : Ge} {te : TE} {n : Nat} (h : EvD te Γ (.int n)) (hn : n ≤ 1000) : EvD (tLstRg (tRg1 te)) Γ (.list ((List.range n).map fun i => .int ((i : Nat) : Int))) := fun k hp σ s E Q q => h k hp σ s E _ fun v k' h' l r => by
  refine ⟨n, r.int_inv, RgOk.of_le (by omega) (by omega) (by omega) (by omega), fun p np => ?_⟩
  have e : rgV 0 (n : Int) = ((List.range n).map fun i => ((i : Nat) : Int)).map V.int := by
    unfold rgV
    rw [List.map_map]
    have : ((n : Int) - 0).toNat = n := by omega
    rw [this]
    exact List.map_congr_left fun i _ => by show V.int (0 + (i : Int)) = V.int (i : Int); rw [Int.zero_add]
  rw [e]
  have d := DqAll.ofInts (k := upd k' p (.lst (((List.range n).map fun i => ((i : Nat) : Int)).map V.int))) ((List.range n).map fun i => ((i : Nat) : Int))
  refine q _ _ _ (l.trans (Le.new l.kh np)) ?_
  rw [show (((List.range n).map fun i => ((i : Nat) : Int)).map PyData.int) = ((List.range n).map fun i => .int ((i : Nat) : Int)) by rw [List.map_map]; rfl] at d
  exact .lst upd_same d
end Bx
namespace Bx
open PySem PySem.Spec L2 PyProof.Rows
/-! ### the layer's rules with the written part named (within a comprehension's block the context is another one, K the same) -/
section
variable {X : Cx}
theorem k_eq (K : PySem.W.Frag) (hK : X.K = K) (hu : X.A.units + 64 < cLine) : OpR X (compareOp .Eq) (rEqD K) := hK ▸ op_eqD hu
theorem k_ne (K : PySem.W.Frag) (hK : X.K = K) (hu : X.A.units + 64 < cLine) : OpR X (compareOp .NotEq) (rNeD K) := hK ▸ op_neD hu
theorem k_inT (K : PySem.W.Frag) (hK : X.K = K) (hu : X.A.units + 65 < cLine) : OpR X (compareOp .In) (rInT K) := hK ▸ op_inT hu
theorem k_inD (K : PySem.W.Frag) (hK : X.K = K) (hu : X.A.units + 65 < cLine) : OpR X (compareOp .In) (rInD K) := hK ▸ op_inD hu
theorem k_in (K : PySem.W.Frag) (hK : X.K = K) : OpR X (compareOp .In) (rIn K false) := hK ▸ op_in_seq
theorem k_ixL (K : PySem.W.Frag) (hK : X.K = K) : IxR X (rIxL K) := hK ▸ ix_list
theorem k_ixT (K : PySem.W.Frag) (hK : X.K = K) : IxR X (rIxT K) := hK ▸ ix_tup
theorem k_slL (K : PySem.W.Frag) (hK : X.K = K) : SlR X (rSlL K) := hK ▸ sl_list
theorem k_slT (K : PySem.W.Frag) (hK : X.K = K) : SlR X (rSlA K) := hK ▸ sl_tupA
theorem k_catT (K : PySem.W.Frag) (hK : X.K = K) : OpR X (binaryOp .Add) (rCatA K) := hK ▸ op_catA
theorem k_mulT (K : PySem.W.Frag) (hK : X.K = K) : OpR X (binaryOp .Mult) (rMulT K) := hK ▸ op_mulT
theorem k_isi (K : PySem.W.Frag) (hK : X.K = K) : CallR X (.builtin "isinstance") (rIsi K) := hK ▸ call_isi
theorem k_any (K : PySem.W.Frag) (hK : X.K = K) (hc : X.calm = true) : CallR X (.builtin "any") (rAny K) := hK ▸ cr_any hc
theorem k_all (K : PySem.W.Frag) (hK : X.K = K) (hc : X.calm = true) : CallR X (.builtin "all") (rAll K) := hK ▸ cr_all hc
theorem k_min (K : PySem.W.Frag) (hK : X.K = K) (hc : X.calm = true) : CallR X (.builtin "min") (rMin K) := hK ▸ cr_min hc
theorem k_max (K : PySem.W.Frag) (hK : X.K = K) (hc : X.calm = true) : CallR X (.builtin "max") (rMax K) := hK ▸ cr_max hc
theorem k_repr (K : PySem.W.Frag) (hK : X.K = K) (hg : X.A.guards = some []) (hu : X.A.units + 64 < cLine) : CallR X (.builtin "repr") (rRepr K) := hK ▸ cr_repr hg hu
theorem k_set (K : PySem.W.Frag) (w : World) (hK : X.K = K) (hw : X.w = w) (hc : X.calm = true) : CallR X (.type "set") (rSetL' K w) := hK ▸ hw ▸ cr_setL hc
theorem k_sorted (w : World) (hw : X.w = w) (hc : X.calm = true) : CallR X (.builtin "sorted") (rSortedSet w) := hw ▸ cr_sortedSet hc
def rLenK (K : PySem.W.Frag) : List V → Hp → VK → Prop := fun xs H Q => ∃ p ys, xs = [.ref p] ∧ (SqL K H p ys ∨ SqT K H p ys) ∧ Q (.int ys.length) H
theorem k_len (K : PySem.W.Frag) (hK : X.K = K) : CallR X (.builtin "len") (rLenK K) := hK ▸ call_len_seq
def rTupK (K : PySem.W.Frag) : List V → Hp → VK → Prop := fun xs H Q => ∃ p ys, xs = [.ref p] ∧ ((SqL K H p ys ∧ ∀ l, H l = none → Q (.ref l) (upd H l (.tup ys))) ∨ (SqT K H p ys ∧ Q (.ref p) H))
theorem k_tuple (K : PySem.W.Frag) (hK : X.K = K) : CallR X (.type "tuple") (rTupK K) := hK ▸ call_tuple_of
theorem ca_lenL' {ds : List PyData} {K : PySem.W.Frag} : CaD (rLenK K) [.list ds] (.int ds.length) := ca_lenL
theorem ca_lenT' {ds : List PyData} {K : PySem.W.Frag} : CaD (rLenK K) [.tuple ds] (.int ds.length) := ca_lenT
theorem ca_tuple' {ds : List PyData} {K : PySem.W.Frag} : CaD (rTupK K) [.list ds] (.tuple ds) := ca_tuple
variable {tg e : Expr} {te : TE} {ta : TA} {p pos tpos : PySem.Pos} {elts : List Expr} {kk : Nat}
theorem ki_list (K : PySem.W.Frag) (hK : X.K = K) (h : PE X e te) : PI X tg e (iList K te) := hK ▸ pi_list h
theorem ki_tup (K : PySem.W.Frag) (hK : X.K = K) (h : PE X e te) : PI X tg e (iTup K te) := hK ▸ pi_tup h
theorem ki_zip (K : PySem.W.Frag) (hK : X.K = K) {e2 : Expr} (hg : Gl X "zip") (hm : X.mg "zip" = none) (ha : PA X [e, e2] ta) (hs : starEach [e, e2] X.env = (false, eval e X.env) :: starEach [e2] X.env := by rfl) (hpl : (backTo pos (starEach [e2] X.env)).any (·.1) = false := by rfl) :
    PI X (.Tuple elts kk tpos) (.Call (.Name "zip" p) [e, e2] [] pos) (RZ.iZipA K ta) := hK ▸ RZ.pi_zipA hg hm ha hs hpl
theorem ki_enum (K : PySem.W.Frag) (hK : X.K = K) (hg : Gl X "enumerate") (hm : X.mg "enumerate" = none) (ha : PA X [e] ta) (hs : starEach [e] X.env = [(false, eval e X.env)] := by rfl) :
    PI X (.Tuple elts kk tpos) (.Call (.Name "enumerate" p) [e] [] pos) (iEnumT K ta) := hK ▸ pi_enumT hg hm ha hs
theorem kg_tup (K : PySem.W.Frag) (hK : X.K = K) {es : List Expr} {k : Nat} {t : TGs} {n : Nat} (hc : X.calm = true) (h : PGs X es t) (hn : (assignEach es X.env).length = n := by rfl) (hst : (assignEach es X.env).findIdx? (·.1) = none := by rfl) :
    PG X (.Tuple es k pos) (gTup K n t) := hK ▸ pg_tup hc h hn hst
theorem k_fld (K : PySem.W.Frag) (hK : X.K = K) {f : PySem.Str} (h : PE X e te) (hb : attributeBase e f X.env (eval e X.env) = eval e X.env) : PE X (.Attribute e f pos) (tFld K te f) := hK ▸ pe_fld h hb
theorem k_rev (K : PySem.W.Frag) (hK : X.K = K) {k : Nat} {p1 p2 p3 : PySem.Pos} (he : PE X e te) : PE X (.Subscript e (.Slice none none (some (.UnaryOp .USub (.Constant (.int 1) k p1) p2)) p3) pos) (tRevL K te) := hK ▸ pe_revL he
end
end Bx
namespace Bx
open PySem PySem.Spec L2 PyProof.Rows
abbrev Fr := Int × Int
abbrev eF (f : Fr) : PyData := .tuple [.int f.1, .int f.2]
abbrev eO : Option Fr → PyData
  | none => .none
  | some f => eF f
abbrev Rf := Option Fr × Option Fr
abbrev eR (r : Rf) : PyData := .tuple [eO r.1, eO r.2]
abbrev eB (b : List Rf) : PyData := .tuple (b.map eR)
def FOk (f : Fr) : Prop := 0 < f.2 ∧ f.2 ≤ 1000000000
def OOk (o : Option Fr) : Prop := ∀ f, o = some f → FOk f
def ROk (r : Rf) : Prop := OOk r.1 ∧ OOk r.2
theorem OOk.none : OOk none := fun _ z => nomatch z
theorem OOk.some {f : Fr} (h : FOk f) : OOk (some f) := fun _ z => Option.some.inj z ▸ h
theorem FOk.mul {f : Fr} (h : FOk f) (i : Int) : CMul i f.2 := .inr ⟨by have := h.1; omega, by have := h.2; omega⟩
theorem et_or1 {t u : TT} {Γ : Ge} (h : EvT t Γ true) : EvT (tOr t u) Γ true := et_or (x := true) (y := true) h fun z => nomatch z
theorem et_or0 {t u : TT} {Γ : Ge} {y : Bool} (h : EvT t Γ false) (h2 : EvT u Γ y) : EvT (tOr t u) Γ y := et_or (x := false) (y := y) h fun _ => h2
theorem et_and0 {t u : TT} {Γ : Ge} (h : EvT t Γ false) : EvT (tAnd t u) Γ false := et_and (x := false) (y := true) h fun z => nomatch z
theorem et_and1 {t u : TT} {Γ : Ge} {y : Bool} (h : EvT t Γ true) (h2 : EvT u Γ y) : EvT (tAnd t u) Γ y := et_and (x := true) (y := y) h fun _ => h2
theorem ev_and0 {ta tb : TE} {Γ : Ge} (h : EvD ta Γ (.bool false)) : EvD (tAndV ta tb) Γ (.bool false) := ev_and (x := false) (y := true) h fun z => nomatch z
theorem ev_and1 {ta tb : TE} {Γ : Ge} {y : Bool} (h : EvD ta Γ (.bool true)) (h2 : EvD tb Γ (.bool y)) : EvD (tAndV ta tb) Γ (.bool y) := ev_and (x := true) (y := y) h fun _ => h2
theorem ev_or1 {ta tb : TE} {Γ : Ge} (h : EvD ta Γ (.bool true)) : EvD (tOrV ta tb) Γ (.bool true) := ev_or (x := true) (y := true) h fun z => nomatch z
theorem ev_or0 {ta tb : TE} {Γ : Ge} {y : Bool} (h : EvD ta Γ (.bool false)) (h2 : EvD tb Γ (.bool y)) : EvD (tOrV ta tb) Γ (.bool y) := ev_or (x := false) (y := y) h fun _ => h2
local macro_rules | `(tactic| walk_at "ev") => `(tactic| repeat' (first
  | with_reducible exact ev_int
  | ((with_reducible apply ev_var); exact rfl)
  | with_reducible exact ev_non
  | with_reducible exact ev_bl
  | with_reducible exact ev_str
  | with_reducible exact ea_nil
  | with_reducible apply ea_cons
  | with_reducible apply et_test
  | with_reducible apply et_B
  | with_reducible exact et_yes
  | with_reducible apply ev_op
  | with_reducible exact op_ii
  | with_reducible exact op_ib
  | ((with_reducible apply op_ixT); exact rfl)
  | ((with_reducible apply op_ixL); exact rfl)
  | with_reducible exact op_isN'
  | with_reducible exact op_notN'
  | ((with_reducible show OpD (fun x y H Q => y = _ ∧ _) _ _ _); first | exact op_isN' | exact op_notN')
  | with_reducible refine' ev_tup ?_ (Nat.le_of_ble_eq_true rfl)
  | with_reducible refine' ev_lst ?_ (Nat.le_of_ble_eq_true rfl)
  | with_reducible apply ev_call
  | with_reducible apply ev_calK
  | with_reducible apply ev_un
  | with_reducible exact un_i
  | with_reducible apply et_not
  | with_reducible apply ev_not
  | ((with_reducible apply op_iC); first | assumption | exact FOk.mul (by assumption) _)
  | with_reducible apply ev_cb
  | with_reducible exact ca_lenL'
  | with_reducible exact ca_lenT'
  | with_reducible exact ca_int
  | with_reducible exact ca_abs
  | with_reducible exact ca_tuple'
  | ((with_reducible apply ev_and))
  | ((with_reducible refine fun (hh : _ = _) => ?_); first | cases hh | skip)))
local macro_rules | `(tactic| walk_at "go") => `(tactic| ((all_goals (walk_at "ev")); (all_goals (try exact rfl))))
section
variable {P : Program} {w : World} {K : PySem.W.Frag} {mg : PySem.Str → Option Value} {base : Heap} {f : Addr} {fd : FuncData}
abbrev s_less : Stmt := topS 13
abbrev N_less : List PySem.Str := ["one", "other"]
abbrev p_less : List PySem.Str := ["one", "other"]
theorem sc_less : FnScope N_less p_less (defScope s_less) := ⟨rfl, rfl, rfl, by decide +kernel, rfl, by decide +kernel, by decide +kernel⟩
def lessF (a b : Fr) : Bool := decide (a.1 * b.2 < b.1 * a.2)
def R_less (ds : List PyData) (d : PyData) : Prop := ∃ a b, FOk a ∧ FOk b ∧ ds = [eF a, eF b] ∧ d = .bool (lessF a b)
theorem r_less {a b : Fr} (ha : FOk a) (hb : FOk b) : R_less [eF a, eF b] (.bool (lessF a b)) := ⟨a, b, ha, hb, rfl, rfl⟩
theorem ok_less (F : Fun K "less" "less" s_less f fd) (B : Blt mg) : FnOk P w K mg base CX0 1 f fd p_less (spD R_less) := by
  have nd := sc_less.nd
  refine fun_pure F sc_less (fun _ _ h => ?_) fun cdv A outer s H E hr => ⟨_, (pss_one (ps_ret (pe_cmpR op_lt (pe_op op_mul (pe_ix (k_ixT K rfl) (pv 0) pe_int (fun _ _ => rfl)) (pe_ix (k_ixT K rfl) (pv 1) pe_int (fun _ _ => rfl))) (pe_op op_mul (pe_ix (k_ixT K rfl) (pv 1) pe_int (fun _ _ => rfl)) (pe_ix (k_ixT K rfl) (pv 0) pe_int (fun _ _ => rfl))) (nomark _)))), fun ds d hR => ?_⟩
  · obtain ⟨a, b, ha, hb, rfl, rfl⟩ := h; rfl
  obtain ⟨a, b, ha, hb, rfl, rfl⟩ := hR
  refine' run_ret ?_ ?_
  walk_at "go"
abbrev s_is_above : Stmt := topS 15
abbrev N_is_above : List PySem.Str := ["low", "high"]
abbrev p_is_above : List PySem.Str := ["low", "high"]
theorem sc_is_above : FnScope N_is_above p_is_above (defScope s_is_above) := ⟨rfl, rfl, rfl, by decide +kernel, rfl, by decide +kernel, by decide +kernel⟩
def aboveF : Option Fr → Option Fr → Bool
  | some l, some h => lessF h l
  | _, _ => false
def R_is_above (ds : List PyData) (d : PyData) : Prop := ∃ a b, OOk a ∧ OOk b ∧ ds = [eO a, eO b] ∧ d = .bool (aboveF a b)
theorem r_is_above {a b : Option Fr} (ha : OOk a) (hb : OOk b) : R_is_above [eO a, eO b] (.bool (aboveF a b)) := ⟨a, b, ha, hb, rfl, rfl⟩
theorem ok_is_above (F : Fun K "is_above" "is_above" s_is_above f fd) (B : Blt mg) (c_less : Cal P w K mg base 1 "less" p_less (spD R_less)) : FnOk P w K mg base CX0 2 f fd p_is_above (spD R_is_above) := by
  have nd := sc_is_above.nd
  refine fun_pure F sc_is_above (fun _ _ h => ?_) fun cdv A outer s H E hr => ⟨_, (pss_one (ps_ret (pe_and (pe_cmpR op_notN (pv 0) pe_non (nomark _)) (pe_and (pe_cmpR op_notN (pv 1) pe_non (nomark _)) (pe_one (pe_calD c_less hr (by decide) rfl (pa_cons (pv 1) (pa_cons (pv 0) pa_nil)))))))), fun ds d hR => ?_⟩
  · obtain ⟨a, b, ha, hb, rfl, rfl⟩ := h; rfl
  obtain ⟨a, b, ha, hb, rfl, rfl⟩ := hR
  cases a with
  | none => refine' run_ret (ev_and0 ?_) ?_; walk_at "go"
  | some l =>
    cases b with
    | none => refine' run_ret (ev_and1 ?_ (ev_and0 ?_)) ?_; walk_at "go"
    | some h =>
      have h1 := ha l rfl
      have h2 := hb h rfl
      refine' run_ret (ev_and1 ?_ (ev_and1 ?_ (ev_call ?_ (r_less h2 h1)))) ?_; walk_at "go"
abbrev s_is_between : Stmt := topS 16
abbrev N_is_between : List PySem.Str := ["value", "ends"]
abbrev p_is_between : List PySem.Str := ["value", "ends"]
theorem sc_is_between : FnScope N_is_between p_is_between (defScope s_is_between) := ⟨rfl, rfl, rfl, by decide +kernel, rfl, by decide +kernel, by decide +kernel⟩
def betweenF (v : Fr) (r : Rf) : Bool := !aboveF r.1 (some v) && !aboveF (some v) r.2
def R_is_between (ds : List PyData) (d : PyData) : Prop := ∃ v r, FOk v ∧ ROk r ∧ ds = [eF v, eR r] ∧ d = .bool (betweenF v r)
theorem r_is_between {v : Fr} {r : Rf} (hv : FOk v) (hr : ROk r) : R_is_between [eF v, eR r] (.bool (betweenF v r)) := ⟨v, r, hv, hr, rfl, rfl⟩
theorem ok_is_between (F : Fun K "is_between" "is_between" s_is_between f fd) (B : Blt mg) (c_is_above : Cal P w K mg base 2 "is_above" p_is_above (spD R_is_above)) : FnOk P w K mg base CX0 3 f fd p_is_between (spD R_is_between) := by
  have nd := sc_is_between.nd
  refine fun_pure F sc_is_between (fun _ _ h => ?_) fun cdv A outer s H E hr => ⟨_, (pss_one (ps_ret (pe_and (pe_not (pe_calD c_is_above hr (by decide) rfl (pa_cons (pe_ix (k_ixT K rfl) (pv 1) pe_int (fun _ _ => rfl)) (pa_cons (pv 0) pa_nil)))) (pe_one (pe_not (pe_calD c_is_above hr (by decide) rfl (pa_cons (pv 0) (pa_cons (pe_ix (k_ixT K rfl) (pv 1) pe_int (fun _ _ => rfl)) pa_nil)))))))), fun ds d hR => ?_⟩
  · obtain ⟨v, r, hv, hr, rfl, rfl⟩ := h; rfl
  obtain ⟨v, r, hv, hr, rfl, rfl⟩ := hR
  refine' run_ret (ev_and (ev_not (ev_call ?_ (r_is_above hr.1 (.some hv)))) fun _ => ev_not (ev_call ?_ (r_is_above (.some hv) hr.2))) ?_; walk_at "go"
abbrev s_sharper_low : Stmt := topS 20
abbrev N_sharper_low : List PySem.Str := ["one", "other"]
abbrev p_sharper_low : List PySem.Str := ["one", "other"]
theorem sc_sharper_low : FnScope N_sharper_low p_sharper_low (defScope s_sharper_low) := ⟨rfl, rfl, rfl, by decide +kernel, rfl, by decide +kernel, by decide +kernel⟩
def sharpLowF : Option Fr → Option Fr → Option Fr
  | none, b => b
  | some x, none => some x
  | some x, some y => if lessF x y then some y else some x
def R_sharper_low (ds : List PyData) (d : PyData) : Prop := ∃ a b, OOk a ∧ OOk b ∧ ds = [eO a, eO b] ∧ d = eO (sharpLowF a b)
theorem r_sharper_low {a b : Option Fr} (ha : OOk a) (hb : OOk b) : R_sharper_low [eO a, eO b] (eO (sharpLowF a b)) := ⟨a, b, ha, hb, rfl, rfl⟩
theorem ok_sharper_low (F : Fun K "sharper_low" "sharper_low" s_sharper_low f fd) (B : Blt mg) (c_less : Cal P w K mg base 1 "less" p_less (spD R_less)) : FnOk P w K mg base CX0 2 f fd p_sharper_low (spD R_sharper_low) := by
  have nd := sc_sharper_low.nd
  refine fun_pure F sc_sharper_low (fun _ _ h => ?_) fun cdv A outer s H E hr => ⟨_, (pss_cons (ps_if (PW.pt (pw_or (pt_cmpR op_isN (pv 0) pe_non (nomark _)) (pw_or1 (PW.pt (pw_and (pt_cmpR op_notN (pv 1) pe_non (nomark _)) (pw_and1 (pt_val (pe_calD c_less hr (by decide) rfl (pa_cons (pv 0) (pa_cons (pv 1) pa_nil)))))))))) (pss_one (ps_ret (pv 1))) pss_nil)
      (pss_one (ps_ret (pv 0)))), fun ds d hR => ?_⟩
  · obtain ⟨a, b, ha, hb, rfl, rfl⟩ := h; rfl
  obtain ⟨a, b, ha, hb, rfl, rfl⟩ := hR
  cases a with
  | none =>
    refine' run_seq (run_if1 (et_or1 ?_) rfl (run_ret ?_ ?_)); walk_at "go"
  | some x =>
    cases b with
    | none => refine' run_seq (run_if0 (et_or0 ?_ (et_and0 ?_)) rfl (run_next (run_ret ?_ ?_))); walk_at "go"
    | some y =>
      have h1 := ha x rfl
      have h2 := hb y rfl
      refine' run_seq (run_if (et_or0 ?_ (et_and1 ?_ (et_B (ev_call ?_ (r_less h1 h2))))) (fun e => run_ret ?_ ?_) (fun e => run_next (run_ret ?_ ?_))); walk_at "go"; all_goals (show eO _ = eO (if lessF x y then _ else _); rw [e]; rfl)
abbrev s_sharper_high : Stmt := topS 21
abbrev N_sharper_high : List PySem.Str := ["one", "other"]
abbrev p_sharper_high : List PySem.Str := ["one", "other"]
theorem sc_sharper_high : FnScope N_sharper_high p_sharper_high (defScope s_sharper_high) := ⟨rfl, rfl, rfl, by decide +kernel, rfl, by decide +kernel, by decide +kernel⟩
def sharpHighF : Option Fr → Option Fr → Option Fr
  | none, b => b
  | some x, none => some x
  | some x, some y => if lessF y x then some y else some x
def R_sharper_high (ds : List PyData) (d : PyData) : Prop := ∃ a b, OOk a ∧ OOk b ∧ ds = [eO a, eO b] ∧ d = eO (sharpHighF a b)
theorem r_sharper_high {a b : Option Fr} (ha : OOk a) (hb : OOk b) : R_sharper_high [eO a, eO b] (eO (sharpHighF a b)) := ⟨a, b, ha, hb, rfl, rfl⟩
theorem ok_sharper_high (F : Fun K "sharper_high" "sharper_high" s_sharper_high f fd) (B : Blt mg) (c_less : Cal P w K mg base 1 "less" p_less (spD R_less)) : FnOk P w K mg base CX0 2 f fd p_sharper_high (spD R_sharper_high) := by
  have nd := sc_sharper_high.nd
  refine fun_pure F sc_sharper_high (fun _ _ h => ?_) fun cdv A outer s H E hr => ⟨_, (pss_cons (ps_if (PW.pt (pw_or (pt_cmpR op_isN (pv 0) pe_non (nomark _)) (pw_or1 (PW.pt (pw_and (pt_cmpR op_notN (pv 1) pe_non (nomark _)) (pw_and1 (pt_val (pe_calD c_less hr (by decide) rfl (pa_cons (pv 1) (pa_cons (pv 0) pa_nil)))))))))) (pss_one (ps_ret (pv 1))) pss_nil)
      (pss_one (ps_ret (pv 0)))), fun ds d hR => ?_⟩
  · obtain ⟨a, b, ha, hb, rfl, rfl⟩ := h; rfl
  obtain ⟨a, b, ha, hb, rfl, rfl⟩ := hR
  cases a with
  | none =>
    refine' run_seq (run_if1 (et_or1 ?_) rfl (run_ret ?_ ?_)); walk_at "go"
  | some x =>
    cases b with
    | none => refine' run_seq (run_if0 (et_or0 ?_ (et_and0 ?_)) rfl (run_next (run_ret ?_ ?_))); walk_at "go"
    | some y =>
      have h1 := ha x rfl
      have h2 := hb y rfl
      refine' run_seq (run_if (et_or0 ?_ (et_and1 ?_ (et_B (ev_call ?_ (r_less h2 h1))))) (fun e => run_ret ?_ ?_) (fun e => run_next (run_ret ?_ ?_))); walk_at "go"; all_goals (show eO _ = eO (if lessF y x then _ else _); rw [e]; rfl)
abbrev s_wider_low : Stmt := topS 22
abbrev N_wider_low : List PySem.Str := ["one", "other"]
abbrev p_wider_low : List PySem.Str := ["one", "other"]
theorem sc_wider_low : FnScope N_wider_low p_wider_low (defScope s_wider_low) := ⟨rfl, rfl, rfl, by decide +kernel, rfl, by decide +kernel, by decide +kernel⟩
def wideLowF : Option Fr → Option Fr → Option Fr
  | some x, some y => sharpHighF (some x) (some y)
  | _, _ => none
def R_wider_low (ds : List PyData) (d : PyData) : Prop := ∃ a b, OOk a ∧ OOk b ∧ ds = [eO a, eO b] ∧ d = eO (wideLowF a b)
theorem r_wider_low {a b : Option Fr} (ha : OOk a) (hb : OOk b) : R_wider_low [eO a, eO b] (eO (wideLowF a b)) := ⟨a, b, ha, hb, rfl, rfl⟩
theorem ok_wider_low (F : Fun K "wider_low" "wider_low" s_wider_low f fd) (B : Blt mg) (c_sharper_high : Cal P w K mg base 2 "sharper_high" p_sharper_high (spD R_sharper_high)) : FnOk P w K mg base CX0 3 f fd p_wider_low (spD R_wider_low) := by
  have nd := sc_wider_low.nd
  refine fun_pure F sc_wider_low (fun _ _ h => ?_) fun cdv A outer s H E hr => ⟨_, (pss_one (ps_ret (pe_ifExp (PW.pt (pw_or (pt_cmpR op_isN (pv 0) pe_non (nomark _)) (pw_or1 (pt_cmpR op_isN (pv 1) pe_non (nomark _))))) pe_non (pe_calD c_sharper_high hr (by decide) rfl (pa_cons (pv 0) (pa_cons (pv 1) pa_nil)))))), fun ds d hR => ?_⟩
  · obtain ⟨a, b, ha, hb, rfl, rfl⟩ := h; rfl
  obtain ⟨a, b, ha, hb, rfl, rfl⟩ := hR
  cases a with
  | none => refine' run_ret (ev_if1 (et_or1 ?_) rfl ?_) ?_; walk_at "go"
  | some x =>
    cases b with
    | none => refine' run_ret (ev_if1 (et_or0 ?_ ?_) rfl ?_) ?_; walk_at "go"
    | some y => refine' run_ret (ev_if0 (et_or0 ?_ ?_) rfl (ev_call ?_ (r_sharper_high ha hb))) ?_; walk_at "go"
abbrev s_wider_high : Stmt := topS 23
abbrev N_wider_high : List PySem.Str := ["one", "other"]
abbrev p_wider_high : List PySem.Str := ["one", "other"]
theorem sc_wider_high : FnScope N_wider_high p_wider_high (defScope s_wider_high) := ⟨rfl, rfl, rfl, by decide +kernel, rfl, by decide +kernel, by decide +kernel⟩
def wideHighF : Option Fr → Option Fr → Option Fr
  | some x, some y => sharpLowF (some x) (some y)
  | _, _ => none
def R_wider_high (ds : List PyData) (d : PyData) : Prop := ∃ a b, OOk a ∧ OOk b ∧ ds = [eO a, eO b] ∧ d = eO (wideHighF a b)
theorem r_wider_high {a b : Option Fr} (ha : OOk a) (hb : OOk b) : R_wider_high [eO a, eO b] (eO (wideHighF a b)) := ⟨a, b, ha, hb, rfl, rfl⟩
theorem ok_wider_high (F : Fun K "wider_high" "wider_high" s_wider_high f fd) (B : Blt mg) (c_sharper_low : Cal P w K mg base 2 "sharper_low" p_sharper_low (spD R_sharper_low)) : FnOk P w K mg base CX0 3 f fd p_wider_high (spD R_wider_high) := by
  have nd := sc_wider_high.nd
  refine fun_pure F sc_wider_high (fun _ _ h => ?_) fun cdv A outer s H E hr => ⟨_, (pss_one (ps_ret (pe_ifExp (PW.pt (pw_or (pt_cmpR op_isN (pv 0) pe_non (nomark _)) (pw_or1 (pt_cmpR op_isN (pv 1) pe_non (nomark _))))) pe_non (pe_calD c_sharper_low hr (by decide) rfl (pa_cons (pv 0) (pa_cons (pv 1) pa_nil)))))), fun ds d hR => ?_⟩
  · obtain ⟨a, b, ha, hb, rfl, rfl⟩ := h; rfl
  obtain ⟨a, b, ha, hb, rfl, rfl⟩ := hR
  cases a with
  | none => refine' run_ret (ev_if1 (et_or1 ?_) rfl ?_) ?_; walk_at "go"
  | some x =>
    cases b with
    | none => refine' run_ret (ev_if1 (et_or0 ?_ ?_) rfl ?_) ?_; walk_at "go"
    | some y => refine' run_ret (ev_if0 (et_or0 ?_ ?_) rfl (ev_call ?_ (r_sharper_low ha hb))) ?_; walk_at "go"
end
end Bx
namespace Bx
open PySem PySem.Spec L2 PyProof.Rows
/-! ### shapes and equality of encoded data -/
theorem canAll_map {α : Type} (e : α → PyData) : ∀ (xs : List α), (∀ x ∈ xs, (e x).canLay0 = true) → PyData.canLayAll0 (xs.map e) = true
  | [], _ => rfl
  | x :: xs, h => by
    show ((e x).canLay0 && PyData.canLayAll0 (xs.map e)) = true
    rw [h x List.mem_cons_self, canAll_map e xs fun y hy => h y (List.mem_cons_of_mem _ hy)]
    rfl
theorem depthAll_map {α : Type} (e : α → PyData) (n : Nat) : ∀ (xs : List α), (∀ x ∈ xs, (e x).depth ≤ n) → PyData.depthAll (xs.map e) ≤ n
  | [], _ => Nat.zero_le _
  | x :: xs, h => by
    show max (e x).depth (PyData.depthAll (xs.map e)) ≤ n
    exact Nat.max_le.mpr ⟨h x List.mem_cons_self, depthAll_map e n xs fun y hy => h y (List.mem_cons_of_mem _ hy)⟩
/-- shaped, with a depth -/
def Shp (n : Nat) (d : PyData) : Prop := d.canLay0 = true ∧ d.depth ≤ n
theorem Shp.ok {n : Nat} {d : PyData} (h : Shp n d) (hn : n ≤ 64) : SeqAt.shaped d = true := by
  unfold SeqAt.shaped
  rw [h.1, decide_eq_true (Nat.le_trans h.2 hn)]
  rfl
theorem Shp.list {α : Type} {e : α → PyData} {n : Nat} {xs : List α} (h : ∀ x ∈ xs, Shp n (e x)) : Shp (n + 1) (.list (xs.map e)) :=
  ⟨canAll_map e xs fun x hx => (h x hx).1, by show PyData.depthAll _ + 1 ≤ n + 1; exact Nat.succ_le_succ (depthAll_map e n xs fun x hx => (h x hx).2)⟩
theorem Shp.tuple {α : Type} {e : α → PyData} {n : Nat} {xs : List α} (h : ∀ x ∈ xs, Shp n (e x)) : Shp (n + 1) (.tuple (xs.map e)) :=
  ⟨canAll_map e xs fun x hx => (h x hx).1, by show PyData.depthAll _ + 1 ≤ n + 1; exact Nat.succ_le_succ (depthAll_map e n xs fun x hx => (h x hx).2)⟩
theorem shp_int (i : Int) (n : Nat) : Shp n (.int i) := ⟨rfl, Nat.zero_le _⟩
theorem shp_F (f : Fr) : Shp 1 (eF f) := ⟨rfl, Nat.le_refl _⟩
theorem shp_O (o : Option Fr) : Shp 1 (eO o) := by cases o with | none => exact ⟨rfl, Nat.zero_le _⟩ | some f => exact shp_F f
theorem shp_R (r : Rf) : Shp 2 (eR r) := by
  obtain ⟨a, b⟩ := r
  cases a <;> cases b <;> exact ⟨rfl, Nat.le_of_ble_eq_true rfl⟩
theorem shp_B (b : List Rf) : Shp 3 (eB b) := .tuple fun x _ => shp_R x
theorem eqv_int (i j : Int) : PyData.eqv (.int i) (.int j) = decide (i = j) := by show (i == j) = _; exact Bool.beq_eq_decide_eq ..
theorem eqvAll_map {α : Type} [DecidableEq α] {e : α → PyData} (h : ∀ x y, PyData.eqv (e x) (e y) = decide (x = y)) : ∀ xs ys : List α, PyData.eqvAll (xs.map e) (ys.map e) = decide (xs = ys)
  | [], [] => rfl
  | [], y :: ys => rfl
  | x :: xs, [] => rfl
  | x :: xs, y :: ys => by
    show (PyData.eqv (e x) (e y) && PyData.eqvAll (xs.map e) (ys.map e)) = _
    rw [h, eqvAll_map h xs ys]
    by_cases h1 : x = y <;> by_cases h2 : xs = ys <;> simp [h1, h2]
theorem eqv_list {α : Type} [DecidableEq α] {e : α → PyData} (h : ∀ x y, PyData.eqv (e x) (e y) = decide (x = y)) (xs ys : List α) : PyData.eqv (.list (xs.map e)) (.list (ys.map e)) = decide (xs = ys) := eqvAll_map h xs ys
theorem eqv_tuple {α : Type} [DecidableEq α] {e : α → PyData} (h : ∀ x y, PyData.eqv (e x) (e y) = decide (x = y)) (xs ys : List α) : PyData.eqv (.tuple (xs.map e)) (.tuple (ys.map e)) = decide (xs = ys) := eqvAll_map h xs ys
theorem eqv_F (a b : Fr) : PyData.eqv (eF a) (eF b) = decide (a = b) := by
  show (PyData.eqv (.int a.1) (.int b.1) && (PyData.eqv (.int a.2) (.int b.2) && true)) = _
  rw [eqv_int, eqv_int]
  by_cases h1 : a.1 = b.1 <;> by_cases h2 : a.2 = b.2 <;> simp [h1, h2, Prod.ext_iff]
theorem eqv_O (a b : Option Fr) : PyData.eqv (eO a) (eO b) = decide (a = b) := by
  cases a with
  | none => cases b <;> rfl
  | some x =>
    cases b with
    | none => rfl
    | some y => rw [show PyData.eqv (eO (some x)) (eO (some y)) = _ from eqv_F x y]; simp
theorem eqv_R (a b : Rf) : PyData.eqv (eR a) (eR b) = decide (a = b) := by
  show (PyData.eqv (eO a.1) (eO b.1) && (PyData.eqv (eO a.2) (eO b.2) && true)) = _
  rw [eqv_O, eqv_O]
  by_cases h1 : a.1 = b.1 <;> by_cases h2 : a.2 = b.2 <;> simp [h1, h2, Prod.ext_iff]
theorem eqv_B (a b : List Rf) : PyData.eqv (eB a) (eB b) = decide (a = b) := eqv_tuple eqv_R a b
/-- any, all over what a comprehension made -/
theorem ca_allm {α : Type} {xs : List α} {g : α → Bool} {K : PySem.W.Frag} : CaD (rAll K) [.list (xs.map fun x => .bool (g x))] (.bool (xs.all g)) := by
  have h := ca_all (K := K) (bs := xs.map g)
  rw [List.map_map, List.all_map] at h
  exact h
theorem ca_anym {α : Type} {xs : List α} {g : α → Bool} {K : PySem.W.Frag} : CaD (rAny K) [.list (xs.map fun x => .bool (g x))] (.bool (xs.any g)) := by
  have h := ca_any (K := K) (bs := xs.map g)
  rw [List.map_map, List.any_map] at h
  exact h
theorem ei_zipm {α β : Type} {Γ : Ge} {targ : TA} {K : PySem.W.Frag} {xs : List α} {ys : List β} {e1 : α → PyData} {e2 : β → PyData} (h : EvA targ Γ [.tuple (xs.map e1), .tuple (ys.map e2)]) (hl : xs.length = ys.length) :
    EvI (RZ.iZipA K targ) Γ ((xs.zip ys).map fun q => .tuple [e1 q.1, e2 q.2]) := by
  have := ei_zip (K := K) h (by rw [List.length_map, List.length_map, hl])
  rw [List.zip_map, List.map_map] at this
  exact this
def rAt (b : List Rf) (i : Nat) : Rf := b.getD i (none, none)
theorem pairs_R (b : List Rf) : pairs (b.map eR) = (List.range b.length).map fun i => .tuple [.int (i : Nat), eR (rAt b i)] := by
  unfold pairs
  rw [List.length_map]
  refine List.map_congr_left fun i hi => ?_
  have hi := List.mem_range.mp hi
  have : (b.map eR).getD i .none = eR (rAt b i) := by
    unfold rAt
    rw [List.getD_eq_getElem?_getD, List.getD_eq_getElem?_getD, List.getElem?_map, List.getElem?_eq_getElem hi]
    rfl
  rw [this]
local macro_rules | `(tactic| walk_at "ev") => `(tactic| repeat' (first
  | with_reducible exact ev_int
  | ((with_reducible apply ev_var); exact rfl)
  | with_reducible exact ev_non
  | with_reducible exact ev_bl
  | with_reducible exact ev_str
  | with_reducible exact ea_nil
  | with_reducible apply ea_cons
  | with_reducible apply et_test
  | with_reducible apply et_B
  | with_reducible exact et_yes
  | with_reducible apply ev_op
  | with_reducible exact op_ii
  | with_reducible exact op_ib
  | ((with_reducible apply op_ixT); exact rfl)
  | ((with_reducible apply op_ixL); exact rfl)
  | with_reducible exact op_isN'
  | with_reducible exact op_notN'
  | ((with_reducible show OpD (fun x y H Q => y = _ ∧ _) _ _ _); first | exact op_isN' | exact op_notN')
  | with_reducible refine' ev_tup ?_ (Nat.le_of_ble_eq_true rfl)
  | with_reducible refine' ev_lst ?_ (Nat.le_of_ble_eq_true rfl)
  | with_reducible apply ev_call
  | with_reducible apply ev_calK
  | with_reducible apply ev_un
  | with_reducible exact un_i
  | with_reducible apply et_not
  | with_reducible apply ev_not
  | ((with_reducible apply op_iC); first | assumption | exact FOk.mul (by assumption) _)
  | with_reducible apply ev_cb
  | with_reducible exact ca_lenL'
  | with_reducible exact ca_lenT'
  | with_reducible exact ca_int
  | with_reducible exact ca_abs
  | with_reducible exact ca_tuple'
  | ((with_reducible apply ev_and))
  | ((with_reducible refine fun (hh : _ = _) => ?_); first | cases hh | skip)))
local macro_rules | `(tactic| walk_at "go") => `(tactic| ((all_goals (walk_at "ev")); (all_goals (try exact rfl))))
section
variable {P : Program} {w : World} {K : PySem.W.Frag} {mg : PySem.Str → Option Value} {base : Heap} {f : Addr} {fd : FuncData}
abbrev ePt (p : List Fr) : PyData := .tuple (p.map eF)
abbrev s_point_box : Stmt := topS 18
abbrev N_point_box : List PySem.Str := ["point", "part"]
abbrev p_point_box : List PySem.Str := ["point"]
theorem sc_point_box : FnScope N_point_box p_point_box (defScope s_point_box) := ⟨rfl, rfl, rfl, by decide +kernel, rfl, by decide +kernel, by decide +kernel⟩
def R_point_box (ds : List PyData) (d : PyData) : Prop := ∃ p : List Fr, p.length ≤ 100 ∧ ds = [ePt p] ∧ d = eB (p.map fun v => (some v, some v))
theorem ok_point_box (F : Fun K "point_box" "point_box" s_point_box f fd) (B : Blt mg) : FnOk P w K mg base CX0 1 f fd p_point_box (spD R_point_box) := by
  have nd := sc_point_box.nd
  refine fun_pure F sc_point_box (fun _ _ h => ?_) fun cdv A outer s H E hr => ⟨_, (pss_one (ps_ret (pe_callTy (k_tuple K rfl) rfl B.tuple (by decide +kernel) (pa_cons (pe_lc (own := [("part", 1)]) rfl nd (ki_tup K rfl (pv 0)) (blkOk_by (by kernel_rfl)) (fun _ _ _ _ _ => (pg_name (i := 1) nd rfl (by first | exact .inl rfl | exact .inr rfl))) (fun _ _ _ _ _ => pts_nil) (fun _ _ _ _ _ => (pe_tup (pa_cons (pv 1) (pa_cons (pv 1) pa_nil))))) pa_nil)))), fun ds d hR => ?_⟩
  · obtain ⟨p, hp, rfl, rfl⟩ := h; rfl
  obtain ⟨p, hp, rfl, rfl⟩ := hR
  refine' run_ret (ev_cb (ea_cons (el_d (el_map p eF (fun v => eR (some v, some v)) (ei_tup ?_) (by omega) rfl fun v hv => ⟨_, _, eg_name, rfl, ?_⟩)) ea_nil) ca_tuple') ?_
  walk_at "go"
  show _ = PyData.tuple _
  rw [List.map_map]
  rfl
abbrev s_in_box : Stmt := topS 19
abbrev N_in_box : List PySem.Str := ["point", "box", "part", "ends"]
abbrev p_in_box : List PySem.Str := ["point", "box"]
theorem sc_in_box : FnScope N_in_box p_in_box (defScope s_in_box) := ⟨rfl, rfl, rfl, by decide +kernel, rfl, by decide +kernel, by decide +kernel⟩
def inBoxF (p : List Fr) (b : List Rf) : Bool := (p.zip b).all fun q => betweenF q.1 q.2
def R_in_box (ds : List PyData) (d : PyData) : Prop := ∃ (p : List Fr) (b : List Rf), p.length = b.length ∧ b.length ≤ 100 ∧ (∀ v ∈ p, FOk v) ∧ (∀ r ∈ b, ROk r) ∧ ds = [ePt p, eB b] ∧ d = .bool (inBoxF p b)
theorem ok_in_box (F : Fun K "in_box" "in_box" s_in_box f fd) (B : Blt mg) (c_is_between : Cal P w K mg base 3 "is_between" p_is_between (spD R_is_between)) : FnOk P w K mg base CX0 4 f fd p_in_box (spD R_in_box) := by
  have nd := sc_in_box.nd
  refine fun_pure F sc_in_box (fun _ _ h => ?_) fun cdv A outer s H E hr => ⟨_, (pss_one (ps_ret (pe_callB (k_all K rfl rfl) rfl B.all (by decide +kernel) (pa_cons (pe_lc (own := [("part", 2), ("ends", 3)]) rfl nd (ki_zip K rfl rfl B.zip (pa_cons (pv 0) (pa_cons (pv 1) pa_nil))) (blkOk_by (by kernel_rfl)) (fun _ _ _ _ _ => (kg_tup (n := 2) K rfl rfl (pgs_cons (pg_name (i := 2) nd rfl (by first | exact .inl rfl | exact .inr rfl)) (pgs_cons (pg_name (i := 3) nd rfl (by first | exact .inl rfl | exact .inr rfl)) pgs_nil)))) (fun _ _ _ _ _ => pts_nil) (fun _ _ _ _ _ => (pe_calD c_is_between hr (by decide) rfl (pa_cons (pv 2) (pa_cons (pv 3) pa_nil))))) pa_nil)))), fun ds d hR => ?_⟩
  · obtain ⟨p, b, hl, hb, hp, hr, rfl, rfl⟩ := h; rfl
  obtain ⟨p, b, hl, hb, hp, hr, rfl, rfl⟩ := hR
  refine' run_ret (ev_cb (ea_cons (el_d (el_map (p.zip b) (fun q => .tuple [eF q.1, eR q.2]) (fun q => .bool (betweenF q.1 q.2)) (ei_zipm ?_ hl) (by rw [List.length_zip]; omega) rfl fun q hq =>
    ⟨_, _, eg_tup rfl (egs_cons eg_name (egs_cons eg_name egs_nil)), rfl, ev_call ?_ (r_is_between (hp _ (List.of_mem_zip hq).1) (hr _ (List.of_mem_zip hq).2))⟩)) ea_nil) ca_allm) ?_
  walk_at "go"
end
end Bx
namespace Bx
open PySem PySem.Spec L2 PyProof.Rows
theorem op_neO {K : PySem.W.Frag} {a b : Option Fr} : OpD (rNeD K) (eO a) (eO b) (.bool (!decide (a = b))) := by
  have h := op_ned (K := K) ((shp_O a).ok (by decide)) ((shp_O b).ok (by decide))
  rw [eqv_O] at h
  exact h
theorem op_neB {K : PySem.W.Frag} {a b : List Rf} : OpD (rNeD K) (eB a) (eB b) (.bool (!decide (a = b))) := by
  have h := op_ned (K := K) ((shp_B a).ok (by decide)) ((shp_B b).ok (by decide))
  rw [eqv_B] at h
  exact h
theorem op_eqB {K : PySem.W.Frag} {a b : List Rf} : OpD (rEqD K) (eB a) (eB b) (.bool (decide (a = b))) := by
  have h := op_eqd (K := K) ((shp_B a).ok (by decide)) ((shp_B b).ok (by decide))
  rw [eqv_B] at h
  exact h
abbrev eOB : Option (List Rf) → PyData
  | none => .none
  | some b => eB b
theorem shp_OB (o : Option (List Rf)) : Shp 3 (eOB o) := by cases o with | none => exact ⟨rfl, Nat.zero_le _⟩ | some f => exact shp_B f
theorem eqv_OB (a b : Option (List Rf)) : PyData.eqv (eOB a) (eOB b) = decide (a = b) := by
  cases a with
  | none => cases b <;> rfl
  | some x =>
    cases b with
    | none => rfl
    | some y => rw [show PyData.eqv (eOB (some x)) (eOB (some y)) = _ from eqv_B x y]; simp
theorem op_neOB {K : PySem.W.Frag} {a b : Option (List Rf)} : OpD (rNeD K) (eOB a) (eOB b) (.bool (!decide (a = b))) := by
  have h := op_ned (K := K) ((shp_OB a).ok (by decide)) ((shp_OB b).ok (by decide))
  rw [eqv_OB] at h
  exact h
theorem all_take {α : Type} (f : α → Bool) {xs : List α} {i : Nat} {x : α} (h : (xs.take i).all f = true) (e : xs[i]? = some x) (hx : f x = true) : (xs.take (i + 1)).all f = true := by
  rw [List.take_add_one, e, List.all_append, h]
  show (f x && true) = true
  rw [hx]; rfl
theorem all_false {α : Type} (f : α → Bool) {xs : List α} {i : Nat} {x : α} (e : xs[i]? = some x) (hx : f x = false) : xs.all f = false := by
  rw [List.all_eq_false]
  exact ⟨x, List.mem_of_getElem? e, by rw [hx]; decide⟩
theorem map_at {α β : Type} {f : α → β} {xs : List α} {i : Nat} {d : β} (h : (xs.map f)[i]? = some d) : ∃ x, xs[i]? = some x ∧ d = f x := by
  rw [List.getElem?_map] at h
  cases q : xs[i]? with
  | none => rw [q] at h; cases h
  | some x => rw [q] at h; exact ⟨x, rfl, (Option.some.inj h).symm⟩
local macro_rules | `(tactic| walk_at "ev") => `(tactic| repeat' (first
  | with_reducible exact ev_int
  | ((with_reducible apply ev_var); exact rfl)
  | with_reducible exact ev_non
  | with_reducible exact ev_bl
  | with_reducible exact ev_str
  | with_reducible exact ea_nil
  | with_reducible apply ea_cons
  | with_reducible apply et_test
  | with_reducible apply et_B
  | with_reducible exact et_yes
  | with_reducible apply ev_op
  | with_reducible exact op_ii
  | with_reducible exact op_ib
  | ((with_reducible apply op_ixT); exact rfl)
  | ((with_reducible apply op_ixL); exact rfl)
  | with_reducible exact op_isN'
  | with_reducible exact op_notN'
  | ((with_reducible show OpD (fun x y H Q => y = _ ∧ _) _ _ _); first | exact op_isN' | exact op_notN')
  | with_reducible refine' ev_tup ?_ (Nat.le_of_ble_eq_true rfl)
  | with_reducible refine' ev_lst ?_ (Nat.le_of_ble_eq_true rfl)
  | with_reducible apply ev_call
  | with_reducible apply ev_calK
  | with_reducible apply ev_un
  | with_reducible exact un_i
  | with_reducible apply et_not
  | with_reducible apply ev_not
  | ((with_reducible apply op_iC); first | assumption | exact FOk.mul (by assumption) _)
  | with_reducible apply ev_cb
  | with_reducible exact ca_lenL'
  | with_reducible exact ca_lenT'
  | with_reducible exact ca_int
  | with_reducible exact ca_abs
  | with_reducible exact ca_tuple'
  | ((with_reducible apply ev_and))
  | ((with_reducible refine fun (hh : _ = _) => ?_); first | cases hh | skip)))
local macro_rules | `(tactic| walk_at "go") => `(tactic| ((all_goals (walk_at "ev")); (all_goals (try exact rfl))))
section
variable {P : Program} {w : World} {K : PySem.W.Frag} {mg : PySem.Str → Option Value} {base : Heap} {f : Addr} {fd : FuncData}
abbrev s_within : Stmt := topS 24
abbrev N_within : List PySem.Str := ["box", "other", "mine", "yours"]
abbrev p_within : List PySem.Str := ["box", "other"]
theorem sc_within : FnScope N_within p_within (defScope s_within) := ⟨rfl, rfl, rfl, by decide +kernel, rfl, by decide +kernel, by decide +kernel⟩
def winR (q : Rf × Rf) : Bool := decide (wideLowF q.1.1 q.2.1 = q.2.1) && decide (wideHighF q.1.2 q.2.2 = q.2.2)
def withinF (b o : List Rf) : Bool := (b.zip o).all winR
def BOk (b : List Rf) : Prop := b.length ≤ 100 ∧ ∀ r ∈ b, ROk r
def R_within (ds : List PyData) (d : PyData) : Prop := ∃ b o : List Rf, b.length = o.length ∧ BOk b ∧ BOk o ∧ ds = [eB b, eB o] ∧ d = .bool (withinF b o)
theorem r_within {b o : List Rf} (h : b.length = o.length) (hb : BOk b) (ho : BOk o) : R_within [eB b, eB o] (.bool (withinF b o)) := ⟨b, o, h, hb, ho, rfl, rfl⟩
theorem ok_within (F : Fun K "within" "within" s_within f fd) (B : Blt mg) (c_wider_high : Cal P w K mg base 3 "wider_high" p_wider_high (spD R_wider_high)) (c_wider_low : Cal P w K mg base 3 "wider_low" p_wider_low (spD R_wider_low)) : FnOk P w K mg base CX0 4 f fd p_within (spD R_within) := by
  have nd := sc_within.nd
  refine fun_pure F sc_within (fun _ _ h => ?_) fun cdv A outer s H E hr => ⟨_, (pss_cons (ps_for PassesOwn.never rfl (ki_zip K rfl rfl B.zip (pa_cons (pv 0) (pa_cons (pv 1) pa_nil))) (kg_tup (n := 2) K rfl rfl (pgs_cons (pg_name (i := 2) nd rfl (by first | exact .inl rfl | exact .inr rfl)) (pgs_cons (pg_name (i := 3) nd rfl (by first | exact .inl rfl | exact .inr rfl)) pgs_nil))) (pss_one (ps_if (PW.pt (pw_or (pt_cmpR (k_ne K rfl hr.units) (pe_calD c_wider_low hr (by decide) rfl (pa_cons (pe_ix (k_ixT K rfl) (pv 2) pe_int (fun _ _ => rfl)) (pa_cons (pe_ix (k_ixT K rfl) (pv 3) pe_int (fun _ _ => rfl)) pa_nil))) (pe_ix (k_ixT K rfl) (pv 3) pe_int (fun _ _ => rfl)) (nomark _)) (pw_or1 (pt_cmpR (k_ne K rfl hr.units) (pe_calD c_wider_high hr (by decide) rfl (pa_cons (pe_ix (k_ixT K rfl) (pv 2) pe_int (fun _ _ => rfl)) (pa_cons (pe_ix (k_ixT K rfl) (pv 3) pe_int (fun _ _ => rfl)) pa_nil))) (pe_ix (k_ixT K rfl) (pv 3) pe_int (fun _ _ => rfl)) (nomark _))))) (pss_one (ps_ret pe_bl)) pss_nil)))
      (pss_one (ps_ret pe_bl))), fun ds d hR => ?_⟩
  · obtain ⟨b, o, hl, hb, ho, rfl, rfl⟩ := h; rfl
  obtain ⟨b, o, hl, hb, ho, rfl, rfl⟩ := hR
  refine' run_seq (run_for (ei_zipm (e1 := eR) (e2 := eR) ?_ hl) (fun i Γ => ∃ u v, Γ = [.dat (eB b), .dat (eB o), u, v] ∧ ((b.zip o).take i).all winR = true) ⟨_, _, rfl, rfl⟩ (fun i d Γi ed hI => ?_) (fun Γn hI => ?_))
  · walk_at "go"
  · obtain ⟨u, v, rfl, hI⟩ := hI
    obtain ⟨q, eq, rfl⟩ := map_at ed
    have m := List.of_mem_zip (List.mem_of_getElem? eq)
    have h1 := hb.2 _ m.1
    have h2 := ho.2 _ m.2
    refine ⟨_, _, eg_tup rfl (egs_cons eg_name (egs_cons eg_name egs_nil)), ?_⟩
    refine' run_if (et_or (et_B (ev_op (ev_call ?_ (r_wider_low h1.1 h2.1)) ?_ op_neO)) fun _ => et_B (ev_op (ev_call ?_ (r_wider_high h1.2 h2.2)) ?_ op_neO)) (fun e => run_ret ?_ ?_) (fun e => run_next ⟨_, _, rfl, all_take _ hI eq ?_⟩)
    walk_at "go"
    · show PyData.bool false = .bool (withinF b o)
      unfold withinF
      rw [all_false winR eq]
      unfold winR
      simp only [Bool.or_eq_true, Bool.not_eq_true'] at e
      rcases e with e | e
      · rw [e]; rfl
      · rw [e, Bool.and_false]
    · simp only [Bool.or_eq_false_iff, Bool.not_eq_false'] at e
      unfold winR
      rw [e.1, e.2]; rfl
  · obtain ⟨u, v, rfl, hI⟩ := hI
    refine' run_ret ?_ ?_
    walk_at "go"
    show PyData.bool true = .bool (withinF b o)
    rw [List.length_map, List.take_length] at hI
    unfold withinF
    rw [hI]
abbrev s_common_box : Stmt := topS 25
abbrev N_common_box : List PySem.Str := ["box", "other", "found", "one", "two", "low", "high"]
abbrev p_common_box : List PySem.Str := ["box", "other"]
theorem sc_common_box : FnScope N_common_box p_common_box (defScope s_common_box) := ⟨rfl, rfl, rfl, by decide +kernel, rfl, by decide +kernel, by decide +kernel⟩
def sharpR (q : Rf × Rf) : Rf := (sharpLowF q.1.1 q.2.1, sharpHighF q.1.2 q.2.2)
def sharpB (b o : List Rf) : List Rf := (b.zip o).map sharpR
def commonF (b o : List Rf) : Option (List Rf) := if (sharpB b o).any (fun r => aboveF r.1 r.2) then none else some (sharpB b o)
def R_common_box (ds : List PyData) (d : PyData) : Prop := ∃ b o : List Rf, b.length = o.length ∧ BOk b ∧ BOk o ∧ ds = [eB b, eB o] ∧ d = eOB (commonF b o)
theorem r_common_box {b o : List Rf} (h : b.length = o.length) (hb : BOk b) (ho : BOk o) : R_common_box [eB b, eB o] (eOB (commonF b o)) := ⟨b, o, h, hb, ho, rfl, rfl⟩
theorem ok_sharpLow {a b : Option Fr} (ha : OOk a) (hb : OOk b) : OOk (sharpLowF a b) := by
  cases a with
  | none => exact hb
  | some x => cases b with
    | none => exact ha
    | some y => show OOk (if lessF x y then some y else some x); split; exact hb; exact ha
theorem ok_sharpHigh {a b : Option Fr} (ha : OOk a) (hb : OOk b) : OOk (sharpHighF a b) := by
  cases a with
  | none => exact hb
  | some x => cases b with
    | none => exact ha
    | some y => show OOk (if lessF y x then some y else some x); split; exact hb; exact ha
theorem ok_wideLow {a b : Option Fr} (ha : OOk a) (hb : OOk b) : OOk (wideLowF a b) := by
  cases a with
  | none => exact .none
  | some x => cases b with
    | none => exact .none
    | some y => exact ok_sharpHigh ha hb
theorem ok_wideHigh {a b : Option Fr} (ha : OOk a) (hb : OOk b) : OOk (wideHighF a b) := by
  cases a with
  | none => exact .none
  | some x => cases b with
    | none => exact .none
    | some y => exact ok_sharpLow ha hb
theorem ok_zipmap {g : Rf × Rf → Rf} (hg : ∀ q, ROk q.1 → ROk q.2 → ROk (g q)) {b o : List Rf} (hb : BOk b) (ho : BOk o) : BOk ((b.zip o).map g) := by
  refine ⟨by rw [List.length_map, List.length_zip]; have := hb.1; omega, fun r hr => ?_⟩
  obtain ⟨q, hq, rfl⟩ := List.mem_map.mp hr
  have m := List.of_mem_zip (a := q.1) (b := q.2) hq
  exact hg q (hb.2 _ m.1) (ho.2 _ m.2)
theorem ok_sharpB {b o : List Rf} (hb : BOk b) (ho : BOk o) : BOk (sharpB b o) := ok_zipmap (fun q h1 h2 => ⟨ok_sharpLow h1.1 h2.1, ok_sharpHigh h1.2 h2.2⟩) hb ho
theorem ok_common_box (F : Fun K "common_box" "common_box" s_common_box f fd) (B : Blt mg) (c_is_above : Cal P w K mg base 2 "is_above" p_is_above (spD R_is_above)) (c_sharper_high : Cal P w K mg base 2 "sharper_high" p_sharper_high (spD R_sharper_high)) (c_sharper_low : Cal P w K mg base 2 "sharper_low" p_sharper_low (spD R_sharper_low)) : FnOk P w K mg base CX0 3 f fd p_common_box (spD R_common_box) := by
  have nd := sc_common_box.nd
  refine fun_pure F sc_common_box (fun _ _ h => ?_) fun cdv A outer s H E hr => ⟨_, (pss_cons (ps_setLc (i := 2) (own := [("one", 3), ("two", 4)]) rfl nd rfl rfl (sw_true rfl rfl rfl (by decide +kernel)) (ki_zip K rfl rfl B.zip (pa_cons (pv 0) (pa_cons (pv 1) pa_nil))) (blkOk_by (by kernel_rfl)) (fun _ _ _ _ _ => (kg_tup (n := 2) K rfl rfl (pgs_cons (pg_name (i := 3) nd rfl (by first | exact .inl rfl | exact .inr rfl)) (pgs_cons (pg_name (i := 4) nd rfl (by first | exact .inl rfl | exact .inr rfl)) pgs_nil)))) (fun _ _ _ _ _ => pts_nil) (fun _ _ _ _ _ => (pe_tup (pa_cons (pe_calD c_sharper_low hr (by decide) rfl (pa_cons (pe_ix (k_ixT K rfl) (pv 3) pe_int (fun _ _ => rfl)) (pa_cons (pe_ix (k_ixT K rfl) (pv 4) pe_int (fun _ _ => rfl)) pa_nil))) (pa_cons (pe_calD c_sharper_high hr (by decide) rfl (pa_cons (pe_ix (k_ixT K rfl) (pv 3) pe_int (fun _ _ => rfl)) (pa_cons (pe_ix (k_ixT K rfl) (pv 4) pe_int (fun _ _ => rfl)) pa_nil))) pa_nil)))))
      (pss_one (ps_ret (pe_ifExp (pt_val (pe_callB (k_any K rfl rfl) rfl B.any (by decide +kernel) (pa_cons (pe_lc (own := [("low", 5), ("high", 6)]) rfl nd (ki_list K rfl (pv 2)) (blkOk_by (by kernel_rfl)) (fun _ _ _ _ _ => (kg_tup (n := 2) K rfl rfl (pgs_cons (pg_name (i := 5) nd rfl (by first | exact .inl rfl | exact .inr rfl)) (pgs_cons (pg_name (i := 6) nd rfl (by first | exact .inl rfl | exact .inr rfl)) pgs_nil)))) (fun _ _ _ _ _ => pts_nil) (fun _ _ _ _ _ => (pe_calD c_is_above hr (by decide) rfl (pa_cons (pv 5) (pa_cons (pv 6) pa_nil))))) pa_nil))) pe_non (pe_callTy (k_tuple K rfl) rfl B.tuple (by decide +kernel) (pa_cons (pv 2) pa_nil)))))), fun ds d hR => ?_⟩
  · obtain ⟨b, o, hl, hb, ho, rfl, rfl⟩ := h; rfl
  obtain ⟨b, o, hl, hb, ho, rfl, rfl⟩ := hR
  have hz : (b.zip o).length ≤ 1000 := by rw [List.length_zip]; have := hb.1; omega
  refine' run_seq (run_set (el_d (el_map (b.zip o) (fun q => .tuple [eR q.1, eR q.2]) (fun q => eR (sharpR q)) (ei_zipm ?_ hl) hz rfl fun q hq => ?_)) ?_)
  · walk_at "go"
  · have m := List.of_mem_zip (a := q.1) (b := q.2) hq
    have h1 := hb.2 _ m.1
    have h2 := ho.2 _ m.2
    refine ⟨_, _, eg_tup rfl (egs_cons eg_name (egs_cons eg_name egs_nil)), rfl, ?_⟩
    refine' ev_tup (ea_cons (ev_call ?_ (r_sharper_low h1.1 h2.1)) (ea_cons (ev_call ?_ (r_sharper_high h1.2 h2.2)) ea_nil)) (Nat.le_of_ble_eq_true rfl)
    walk_at "go"
  have e1 : (b.zip o).map (fun q => eR (sharpR q)) = (sharpB b o).map eR := by unfold sharpB; rw [List.map_map]; rfl
  rw [e1]
  have hs := ok_sharpB hb ho
  refine' run_ret (ev_if (et_test (ev_cb (ea_cons (el_d (el_map (sharpB b o) eR (fun r => .bool (aboveF r.1 r.2)) (ei_list ?_) (by have := hs.1; omega) rfl fun q hq => ⟨_, _, eg_tup rfl (egs_cons eg_name (egs_cons eg_name egs_nil)), rfl, ev_call ?_ (r_is_above (hs.2 q hq).1 (hs.2 q hq).2)⟩)) ea_nil) ca_anym)) (fun e => ?_) (fun e => ?_)) ?_
  rotate_right 1
  · exact rfl
  · walk_at "go"
  · walk_at "go"
  · show EvD _ _ (eOB (commonF b o)); unfold commonF; rw [if_pos e]; exact ev_non
  · show EvD _ _ (eOB (commonF b o)); unfold commonF; rw [if_neg (by rw [e]; decide)]; refine' ev_cb ?_ ca_tuple'; walk_at "go"
abbrev s_joined_box : Stmt := topS 26
abbrev N_joined_box : List PySem.Str := ["box", "other", "one", "two"]
abbrev p_joined_box : List PySem.Str := ["box", "other"]
theorem sc_joined_box : FnScope N_joined_box p_joined_box (defScope s_joined_box) := ⟨rfl, rfl, rfl, by decide +kernel, rfl, by decide +kernel, by decide +kernel⟩
def wideR (q : Rf × Rf) : Rf := (wideLowF q.1.1 q.2.1, wideHighF q.1.2 q.2.2)
def joinedF (b o : List Rf) : List Rf := (b.zip o).map wideR
def R_joined_box (ds : List PyData) (d : PyData) : Prop := ∃ b o : List Rf, b.length = o.length ∧ BOk b ∧ BOk o ∧ ds = [eB b, eB o] ∧ d = eB (joinedF b o)
theorem r_joined_box {b o : List Rf} (h : b.length = o.length) (hb : BOk b) (ho : BOk o) : R_joined_box [eB b, eB o] (eB (joinedF b o)) := ⟨b, o, h, hb, ho, rfl, rfl⟩
theorem ok_joined {b o : List Rf} (hb : BOk b) (ho : BOk o) : BOk (joinedF b o) := ok_zipmap (fun q h1 h2 => ⟨ok_wideLow h1.1 h2.1, ok_wideHigh h1.2 h2.2⟩) hb ho
theorem ok_joined_box (F : Fun K "joined_box" "joined_box" s_joined_box f fd) (B : Blt mg) (c_wider_high : Cal P w K mg base 3 "wider_high" p_wider_high (spD R_wider_high)) (c_wider_low : Cal P w K mg base 3 "wider_low" p_wider_low (spD R_wider_low)) : FnOk P w K mg base CX0 4 f fd p_joined_box (spD R_joined_box) := by
  have nd := sc_joined_box.nd
  refine fun_pure F sc_joined_box (fun _ _ h => ?_) fun cdv A outer s H E hr => ⟨_, (pss_one (ps_ret (pe_callTy (k_tuple K rfl) rfl B.tuple (by decide +kernel) (pa_cons (pe_lc (own := [("one", 2), ("two", 3)]) rfl nd (ki_zip K rfl rfl B.zip (pa_cons (pv 0) (pa_cons (pv 1) pa_nil))) (blkOk_by (by kernel_rfl)) (fun _ _ _ _ _ => (kg_tup (n := 2) K rfl rfl (pgs_cons (pg_name (i := 2) nd rfl (by first | exact .inl rfl | exact .inr rfl)) (pgs_cons (pg_name (i := 3) nd rfl (by first | exact .inl rfl | exact .inr rfl)) pgs_nil)))) (fun _ _ _ _ _ => pts_nil) (fun _ _ _ _ _ => (pe_tup (pa_cons (pe_calD c_wider_low hr (by decide) rfl (pa_cons (pe_ix (k_ixT K rfl) (pv 2) pe_int (fun _ _ => rfl)) (pa_cons (pe_ix (k_ixT K rfl) (pv 3) pe_int (fun _ _ => rfl)) pa_nil))) (pa_cons (pe_calD c_wider_high hr (by decide) rfl (pa_cons (pe_ix (k_ixT K rfl) (pv 2) pe_int (fun _ _ => rfl)) (pa_cons (pe_ix (k_ixT K rfl) (pv 3) pe_int (fun _ _ => rfl)) pa_nil))) pa_nil))))) pa_nil)))), fun ds d hR => ?_⟩
  · obtain ⟨b, o, hl, hb, ho, rfl, rfl⟩ := h; rfl
  obtain ⟨b, o, hl, hb, ho, rfl, rfl⟩ := hR
  have hz : (b.zip o).length ≤ 1000 := by rw [List.length_zip]; have := hb.1; omega
  refine' run_ret (ev_cb (ea_cons (el_d (el_map (b.zip o) (fun q => .tuple [eR q.1, eR q.2]) (fun q => eR (wideR q)) (ei_zipm ?_ hl) hz rfl fun q hq => ?_)) ea_nil) ca_tuple') ?_
  · walk_at "go"
  · have m := List.of_mem_zip (a := q.1) (b := q.2) hq
    have h1 := hb.2 _ m.1
    have h2 := ho.2 _ m.2
    refine ⟨_, _, eg_tup rfl (egs_cons eg_name (egs_cons eg_name egs_nil)), rfl, ?_⟩
    refine' ev_tup (ea_cons (ev_call ?_ (r_wider_low h1.1 h2.1)) (ea_cons (ev_call ?_ (r_wider_high h1.2 h2.2)) ea_nil)) (Nat.le_of_ble_eq_true rfl)
    walk_at "go"
  · show PyData.tuple _ = .tuple ((joinedF b o).map eR)
    unfold joinedF
    rw [List.map_map]
    rfl
end
end Bx
namespace Bx
open PySem PySem.Spec L2 PyProof.Rows
theorem any_eqF (ends : List Fr) (a : Fr) : (ends.map eF).any (fun z => PyData.eqv z (eF a)) = decide (a ∈ ends) := by
  rw [List.any_map]
  induction ends with
  | nil => rfl
  | cons x xs ih =>
    rw [List.any_cons, ih]
    show (PyData.eqv (eF x) (eF a) || _) = _
    rw [eqv_F]
    by_cases h : x = a
    · subst h; simp
    · simp [h, Ne.symm h]
theorem shp_Pt (p : List Fr) : Shp 2 (ePt p) := .tuple fun x _ => shp_F x
theorem od_inF {K : PySem.W.Frag} {a : Fr} {ends : List Fr} : OpD (rInT K) (eF a) (ePt ends) (.bool (decide (a ∈ ends))) := by
  have h := od_inT (K := K) ((shp_F a).ok (by decide)) ((shp_Pt ends).ok (by decide))
  rw [any_eqF] at h
  exact h
theorem isNone_O (o : Option Fr) : isNoneD (eO o) = o.isNone := by cases o <;> rfl
theorem atI_nat {α : Type} {xs : List α} {i : Nat} {x : α} (h : xs[i]? = some x) : atI xs (i : Int) = some x := by
  have hi : i < xs.length := (List.getElem?_eq_some_iff.mp h).1
  unfold atI ixN
  rw [if_pos (by omega), if_pos (by omega)]
  simpa using h
theorem rAt_get {b : List Rf} {i : Nat} (h : i < b.length) : b[i]? = some (rAt b i) := by
  unfold rAt
  rw [List.getD_eq_getElem?_getD, List.getElem?_eq_getElem h]
  rfl
theorem rAt_mem {b : List Rf} {i : Nat} (h : i < b.length) : rAt b i ∈ b := List.mem_of_getElem? (rAt_get h)
theorem set_cut (b : List PyData) (i : Nat) (x : PyData) (h : i < b.length) : cutD b none (some (i : Int)) ++ [x] ++ cutD b (some ((i : Int) + 1)) none = b.set i x := by
  have e1 : cutD b none (some (i : Int)) = b.take i := by
    unfold cutD
    rw [HT.sIx_nat, HT.sIx_none, List.drop_zero, Nat.sub_zero, Nat.min_eq_left (Nat.le_of_lt h)]
  have e2 : cutD b (some ((i : Int) + 1)) none = b.drop (i + 1) := by
    unfold cutD
    have : ((i : Int) + 1) = ((i + 1 : Nat) : Int) := rfl
    rw [this, HT.sIx_nat, HT.sIx_none, Nat.min_eq_left h, List.take_of_length_le]
    rw [List.length_drop]; exact Nat.le_refl _
  rw [e1, e2, List.set_eq_take_append_cons_drop, if_pos h, List.append_assoc]
  rfl
local macro_rules | `(tactic| walk_at "ev") => `(tactic| repeat' (first
  | with_reducible exact ev_int
  | ((with_reducible apply ev_var); exact rfl)
  | with_reducible exact ev_non
  | with_reducible exact ev_bl
  | with_reducible exact ev_str
  | with_reducible exact ea_nil
  | with_reducible apply ea_cons
  | with_reducible apply et_test
  | with_reducible apply et_B
  | with_reducible exact et_yes
  | with_reducible apply ev_op
  | with_reducible exact op_ii
  | with_reducible exact op_ib
  | ((with_reducible apply op_ixT); exact rfl)
  | ((with_reducible apply op_ixL); exact rfl)
  | with_reducible exact op_isN'
  | with_reducible exact op_notN'
  | ((with_reducible show OpD (fun x y H Q => y = _ ∧ _) _ _ _); first | exact op_isN' | exact op_notN')
  | with_reducible refine' ev_tup ?_ (Nat.le_of_ble_eq_true rfl)
  | with_reducible refine' ev_lst ?_ (Nat.le_of_ble_eq_true rfl)
  | with_reducible apply ev_call
  | with_reducible apply ev_calK
  | with_reducible apply ev_un
  | with_reducible exact un_i
  | with_reducible apply et_not
  | with_reducible apply ev_not
  | ((with_reducible apply op_iC); first | assumption | exact FOk.mul (by assumption) _)
  | with_reducible apply ev_cb
  | with_reducible exact ca_lenL'
  | with_reducible exact ca_lenT'
  | with_reducible exact ca_int
  | with_reducible exact ca_abs
  | with_reducible exact ca_tuple'
  | ((with_reducible apply ev_and))
  | ((with_reducible refine fun (hh : _ = _) => ?_); first | cases hh | skip)))
local macro_rules | `(tactic| walk_at "go") => `(tactic| ((all_goals (walk_at "ev")); (all_goals (try exact rfl))))
section
variable {P : Program} {w : World} {K : PySem.W.Frag} {mg : PySem.Str → Option Value} {base : Heap} {f : Addr} {fd : FuncData}
abbrev s_box_ends : Stmt := topS 27
abbrev N_box_ends : List PySem.Str := ["box", "at", "ends", "side"]
abbrev p_box_ends : List PySem.Str := ["box"]
theorem sc_box_ends : FnScope N_box_ends p_box_ends (defScope s_box_ends) := ⟨rfl, rfl, rfl, by decide +kernel, rfl, by decide +kernel, by decide +kernel⟩
def sideR (r : Rf) (s : Nat) : Option Fr := if s = 0 then r.1 else r.2
def boxEndsF (b : List Rf) : List Fr := (List.range b.length).flatMap fun i => ([0, 1].filter fun s => (sideR (rAt b i) s).isSome).map fun s => ((i : Int), ((s : Nat) : Int))
def R_box_ends (ds : List PyData) (d : PyData) : Prop := ∃ b : List Rf, BOk b ∧ ds = [eB b] ∧ d = ePt (boxEndsF b)
theorem r_box_ends {b : List Rf} (hb : BOk b) : R_box_ends [eB b] (ePt (boxEndsF b)) := ⟨b, hb, rfl, rfl⟩
theorem ok_box_ends (F : Fun K "box_ends" "box_ends" s_box_ends f fd) (B : Blt mg) : FnOk P w K mg base CX0 1 f fd p_box_ends (spD R_box_ends) := by
  have nd := sc_box_ends.nd
  refine fun_pure F sc_box_ends (fun _ _ h => ?_) fun cdv A outer s H E hr => ⟨_, (pss_one (ps_ret (pe_callTy (k_tuple K rfl) rfl B.tuple (by decide +kernel) (pa_cons (pe_lc2 (own := [("at", 1), ("ends", 2), ("side", 3)]) (vs1 := [3]) rfl nd (ki_enum K rfl rfl B.enumerate (pa_cons (pv 0) pa_nil)) (blkOk_by (by kernel_rfl)) (by decide) (fun _ _ _ _ _ => (kg_tup (n := 2) K rfl rfl (pgs_cons (pg_name (i := 1) nd rfl (by first | exact .inl rfl | exact .inr rfl)) (pgs_cons (pg_name (i := 2) nd rfl (by first | exact .inl rfl | exact .inr rfl)) pgs_nil)))) (fun _ _ _ _ _ => pts_nil) (fun _ _ _ _ _ => (ki_tup K rfl (pe_tup (pa_cons pe_int (pa_cons pe_int pa_nil))))) (fun _ _ _ _ _ => (pg_name (i := 3) nd rfl (by first | exact .inl rfl | exact .inr rfl))) (fun _ _ _ _ _ => (pts_one (pt_cmpR op_notN (pe_ix (k_ixT K rfl) (pv 2) (pv 3) (fun _ _ => rfl)) pe_non (nomark _)))) (fun _ _ _ _ _ => (pe_tup (pa_cons (pv 1) (pa_cons (pv 3) pa_nil))))) pa_nil)))), fun ds d hR => ?_⟩
  · obtain ⟨b, hb, rfl, rfl⟩ := h; rfl
  obtain ⟨b, hb, rfl, rfl⟩ := hR
  refine' run_ret (ev_cb (ea_cons (el_d (el_lc2 (List.range b.length) [0, 1] (fun i => .tuple [.int (i : Nat), eR (rAt b i)]) (fun s : Nat => .int ((s : Nat) : Int)) (fun i s => (sideR (rAt b i) s).isSome) (fun i s => eF ((i : Int), (s : Int))) ?_ (plainG_of rfl) (by rw [List.length_range]; exact hb.1) (Nat.le_of_ble_eq_true rfl) fun i hi => ?_)) ea_nil) ca_tuple') ?_
  · rw [← pairs_R]; refine' ei_enumT ?_; walk_at "go"
  · refine ⟨_, _, eg_tup rfl (egs_cons eg_name (egs_cons eg_name egs_nil)), rfl, ?_, fun s hs => ⟨_, _, eg_name, rfl, ?_, fun _ => ?_⟩⟩
    · refine' ei_tup (ds := [.int 0, .int 1]) ?_; walk_at "go"
    · have e : atI [eO (rAt b i).1, eO (rAt b i).2] ((s : Nat) : Int) = some (eO (sideR (rAt b i) s)) := by
        rcases List.mem_cons.mp hs with rfl | hs
        · rfl
        · rcases List.mem_cons.mp hs with rfl | hs
          · rfl
          · cases hs
      refine' et_is (et_test (ev_op (ev_op (ev_var (d := eR (rAt b i)) rfl) (ev_var (d := .int ((s : Nat) : Int)) rfl) (op_ixT e)) ev_non op_notN')) ?_
      rw [isNone_O]
      cases sideR (rAt b i) s <;> rfl
    · walk_at "go"
  · show PyData.tuple _ = .tuple ((boxEndsF b).map eF)
    unfold boxEndsF
    rw [List.map_flatMap]
    congr 1
    refine congrArg (fun g => List.flatMap g (List.range b.length)) (funext fun i => ?_)
    rw [List.map_map]
    rfl
abbrev s_only_ends : Stmt := topS 28
abbrev N_only_ends : List PySem.Str := ["box", "ends", "at", "low", "high"]
abbrev p_only_ends : List PySem.Str := ["box", "ends"]
theorem sc_only_ends : FnScope N_only_ends p_only_ends (defScope s_only_ends) := ⟨rfl, rfl, rfl, by decide +kernel, rfl, by decide +kernel, by decide +kernel⟩
def onlyF (b : List Rf) (ends : List Fr) : List Rf := (List.range b.length).map fun (i : Nat) => (if ((i : Int), (0 : Int)) ∈ ends then (rAt b i).1 else none, if ((i : Int), (1 : Int)) ∈ ends then (rAt b i).2 else none)
def R_only_ends (ds : List PyData) (d : PyData) : Prop := ∃ (b : List Rf) (ends : List Fr), BOk b ∧ ds = [eB b, ePt ends] ∧ d = eB (onlyF b ends)
theorem r_only_ends {b : List Rf} {ends : List Fr} (hb : BOk b) : R_only_ends [eB b, ePt ends] (eB (onlyF b ends)) := ⟨b, ends, hb, rfl, rfl⟩
theorem ok_only_ends (F : Fun K "only_ends" "only_ends" s_only_ends f fd) (B : Blt mg) : FnOk P w K mg base CX0 1 f fd p_only_ends (spD R_only_ends) := by
  have nd := sc_only_ends.nd
  refine fun_pure F sc_only_ends (fun _ _ h => ?_) fun cdv A outer s H E hr => ⟨_, (pss_one (ps_ret (pe_callTy (k_tuple K rfl) rfl B.tuple (by decide +kernel) (pa_cons (pe_lc (own := [("at", 2), ("low", 3), ("high", 4)]) rfl nd (ki_enum K rfl rfl B.enumerate (pa_cons (pv 0) pa_nil)) (blkOk_by (by kernel_rfl)) (fun _ _ _ _ _ => (kg_tup (n := 2) K rfl rfl (pgs_cons (pg_name (i := 2) nd rfl (by first | exact .inl rfl | exact .inr rfl)) (pgs_cons (kg_tup (n := 2) K rfl rfl (pgs_cons (pg_name (i := 3) nd rfl (by first | exact .inl rfl | exact .inr rfl)) (pgs_cons (pg_name (i := 4) nd rfl (by first | exact .inl rfl | exact .inr rfl)) pgs_nil))) pgs_nil)))) (fun _ _ _ _ _ => pts_nil) (fun _ _ _ _ _ => (pe_tup (pa_cons (pe_ifExp (pt_cmpR (k_inT K rfl (room65 hr)) (pe_tup (pa_cons (pv 2) (pa_cons pe_int pa_nil))) (pv 1) (by rfl)) (pv 3) pe_non) (pa_cons (pe_ifExp (pt_cmpR (k_inT K rfl (room65 hr)) (pe_tup (pa_cons (pv 2) (pa_cons pe_int pa_nil))) (pv 1) (by rfl)) (pv 4) pe_non) pa_nil))))) pa_nil)))), fun ds d hR => ?_⟩
  · obtain ⟨b, ends, hb, rfl, rfl⟩ := h; rfl
  obtain ⟨b, ends, hb, rfl, rfl⟩ := hR
  refine' run_ret (ev_cb (ea_cons (el_d (el_map (List.range b.length) (fun i => .tuple [.int (i : Nat), eR (rAt b i)]) (fun (i : Nat) => eR (if ((i : Int), (0 : Int)) ∈ ends then (rAt b i).1 else none, if ((i : Int), (1 : Int)) ∈ ends then (rAt b i).2 else none)) ?_ (by rw [List.length_range]; have := hb.1; omega) rfl fun i hi => ?_)) ea_nil) ca_tuple') ?_
  · rw [← pairs_R]; refine' ei_enumT ?_; walk_at "go"
  · refine ⟨_, _, eg_tup rfl (egs_cons eg_name (egs_cons (eg_tup rfl (egs_cons eg_name (egs_cons eg_name egs_nil))) egs_nil)), rfl, ?_⟩
    refine' ev_tup (ea_cons (ev_if (et_B (ev_op (b := ePt ends) (a := eF ((i : Int), 0)) ?_ ?_ od_inF)) (fun e => ?_) (fun e => ?_)) (ea_cons (ev_if (et_B (ev_op (b := ePt ends) (a := eF ((i : Int), 1)) ?_ ?_ od_inF)) (fun e => ?_) (fun e => ?_)) ea_nil)) (Nat.le_of_ble_eq_true rfl)
    all_goals first | (have e := of_decide_eq_true e; rw [if_pos e]) | (have e := of_decide_eq_false e; rw [if_neg e]) | skip
    walk_at "go"
  · show PyData.tuple _ = .tuple ((onlyF b ends).map eR)
    unfold onlyF
    rw [List.map_map]
    rfl
abbrev s_with_range : Stmt := topS 29
abbrev N_with_range : List PySem.Str := ["box", "at", "ends"]
abbrev p_with_range : List PySem.Str := ["box", "at", "ends"]
theorem sc_with_range : FnScope N_with_range p_with_range (defScope s_with_range) := ⟨rfl, rfl, rfl, by decide +kernel, rfl, by decide +kernel, by decide +kernel⟩
def R_with_range (ds : List PyData) (d : PyData) : Prop := ∃ (b : List Rf) (i : Nat) (r : Rf), b.length ≤ 100 ∧ i < b.length ∧ ds = [eB b, .int (i : Nat), eR r] ∧ d = eB (b.set i r)
theorem r_with_range {b : List Rf} {i : Nat} {r : Rf} (hb : b.length ≤ 100) (hi : i < b.length) : R_with_range [eB b, .int (i : Nat), eR r] (eB (b.set i r)) := ⟨b, i, r, hb, hi, rfl, rfl⟩
theorem ok_with_range (F : Fun K "with_range" "with_range" s_with_range f fd) (B : Blt mg) : FnOk P w K mg base CX0 1 f fd p_with_range (spD R_with_range) := by
  have nd := sc_with_range.nd
  refine fun_pure F sc_with_range (fun _ _ h => ?_) fun cdv A outer s H E hr => ⟨_, (pss_one (ps_ret (pe_op (k_catT K rfl) (pe_op (k_catT K rfl) (pe_slice (k_slT K rfl) (pv 0) po_none (po_some (pv 1))) (pe_tup (pa_cons (pv 2) pa_nil))) (pe_slice (k_slT K rfl) (pv 0) (po_some (pe_op op_add (pv 1) pe_int)) po_none)))), fun ds d hR => ?_⟩
  · obtain ⟨b, i, r, hb, hi, rfl, rfl⟩ := h; rfl
  obtain ⟨b, i, r, hb, hi, rfl, rfl⟩ := hR
  have e : (eB (b.set i r)) = .tuple (cutD (b.map eR) none (some (i : Int)) ++ [eR r] ++ cutD (b.map eR) (some ((i : Int) + 1)) none) := by
    rw [set_cut _ _ _ (by rw [List.length_map]; exact hi)]
    show PyData.tuple _ = _
    rw [List.map_set]
  have l1 : (cutD (b.map eR) none (some (i : Int))).length ≤ 100 := by unfold cutD; rw [List.length_take, List.length_drop, List.length_map]; omega
  have l2 : (cutD (b.map eR) (some ((i : Int) + 1)) none).length ≤ 100 := by unfold cutD; rw [List.length_take, List.length_drop, List.length_map]; omega
  refine' run_ret (ev_op (ev_op (ev_slT (ds := b.map eR) ?_ eo_none (eo_some (i := (i : Int)) ?_)) (ev_tup (ea_cons ?_ ea_nil) (Nat.le_of_ble_eq_true rfl)) (op_catt (es := [eR r]) ?_)) (ev_slT (ds := b.map eR) ?_ (eo_some (i := (i : Int) + 1) ?_) eo_none) (op_catt ?_)) e.symm
  all_goals try (simp only [List.length_append, List.length_singleton]; omega)
  walk_at "go"
abbrev s_placed : Stmt := topS 30
abbrev N_placed : List PySem.Str := ["box", "at", "value"]
abbrev p_placed : List PySem.Str := ["box", "at", "value"]
theorem sc_placed : FnScope N_placed p_placed (defScope s_placed) := ⟨rfl, rfl, rfl, by decide +kernel, rfl, by decide +kernel, by decide +kernel⟩
def R_placed (ds : List PyData) (d : PyData) : Prop := ∃ (b : List Rf) (i : Nat) (v : Fr), b.length ≤ 100 ∧ i < b.length ∧ ds = [eB b, .int (i : Nat), eF v] ∧ d = eB (b.set i (some v, some v))
theorem r_placed {b : List Rf} {i : Nat} {v : Fr} (hb : b.length ≤ 100) (hi : i < b.length) : R_placed [eB b, .int (i : Nat), eF v] (eB (b.set i (some v, some v))) := ⟨b, i, v, hb, hi, rfl, rfl⟩
theorem ok_placed (F : Fun K "placed" "placed" s_placed f fd) (B : Blt mg) (c_with_range : Cal P w K mg base 1 "with_range" p_with_range (spD R_with_range)) : FnOk P w K mg base CX0 2 f fd p_placed (spD R_placed) := by
  have nd := sc_placed.nd
  refine fun_pure F sc_placed (fun _ _ h => ?_) fun cdv A outer s H E hr => ⟨_, (pss_one (ps_ret (pe_calD c_with_range hr (by decide) rfl (pa_cons (pv 0) (pa_cons (pv 1) (pa_cons (pe_tup (pa_cons (pv 2) (pa_cons (pv 2) pa_nil))) pa_nil)))))), fun ds d hR => ?_⟩
  · obtain ⟨b, i, v, hb, hi, rfl, rfl⟩ := h; rfl
  obtain ⟨b, i, v, hb, hi, rfl, rfl⟩ := hR
  refine' run_ret (ev_call ?_ (r_with_range (r := (some v, some v)) hb hi)) ?_
  walk_at "go"
abbrev s_halves : Stmt := topS 31
abbrev N_halves : List PySem.Str := ["box", "at", "value", "low", "high", "below", "above"]
abbrev p_halves : List PySem.Str := ["box", "at", "value"]
theorem sc_halves : FnScope N_halves p_halves (defScope s_halves) := ⟨rfl, rfl, rfl, by decide +kernel, rfl, by decide +kernel, by decide +kernel⟩
def belowF (b : List Rf) (i : Nat) (v : Fr) : Option (List Rf) := if aboveF (rAt b i).1 (some v) then none else some (b.set i ((rAt b i).1, sharpHighF (rAt b i).2 (some v)))
def overF (b : List Rf) (i : Nat) (v : Fr) : Option (List Rf) := if aboveF (some v) (rAt b i).2 then none else some (b.set i (sharpLowF (rAt b i).1 (some v), (rAt b i).2))
abbrev eHalf (q : Option (List Rf) × Option (List Rf)) : PyData := .tuple [eOB q.1, eOB q.2]
def halvesF (b : List Rf) (i : Nat) (v : Fr) : Option (List Rf) × Option (List Rf) := (belowF b i v, overF b i v)
def R_halves (ds : List PyData) (d : PyData) : Prop := ∃ (b : List Rf) (i : Nat) (v : Fr), BOk b ∧ i < b.length ∧ FOk v ∧ ds = [eB b, .int (i : Nat), eF v] ∧ d = eHalf (halvesF b i v)
theorem r_halves {b : List Rf} {i : Nat} {v : Fr} (hb : BOk b) (hi : i < b.length) (hv : FOk v) : R_halves [eB b, .int (i : Nat), eF v] (eHalf (halvesF b i v)) := ⟨b, i, v, hb, hi, hv, rfl, rfl⟩
theorem ok_halves (F : Fun K "halves" "halves" s_halves f fd) (B : Blt mg) (c_is_above : Cal P w K mg base 2 "is_above" p_is_above (spD R_is_above)) (c_sharper_high : Cal P w K mg base 2 "sharper_high" p_sharper_high (spD R_sharper_high)) (c_sharper_low : Cal P w K mg base 2 "sharper_low" p_sharper_low (spD R_sharper_low)) (c_with_range : Cal P w K mg base 1 "with_range" p_with_range (spD R_with_range)) : FnOk P w K mg base CX0 3 f fd p_halves (spD R_halves) := by
  have nd := sc_halves.nd
  refine fun_pure F sc_halves (fun _ _ h => ?_) fun cdv A outer s H E hr => ⟨_, (pss_cons (ps_asg (pe_ix (k_ixT K rfl) (pv 0) (pv 1) (fun _ _ => rfl)) (kg_tup (n := 2) K rfl rfl (pgs_cons (pg_name (i := 3) nd rfl (by first | exact .inl rfl | exact .inr rfl)) (pgs_cons (pg_name (i := 4) nd rfl (by first | exact .inl rfl | exact .inr rfl)) pgs_nil))))
      (pss_cons (ps_set (i := 5) nd rfl (by first | exact .inl rfl | exact .inr rfl) (pe_ifExp (pt_val (pe_calD c_is_above hr (by decide) rfl (pa_cons (pv 3) (pa_cons (pv 2) pa_nil)))) pe_non (pe_calD c_with_range hr (by decide) rfl (pa_cons (pv 0) (pa_cons (pv 1) (pa_cons (pe_tup (pa_cons (pv 3) (pa_cons (pe_calD c_sharper_high hr (by decide) rfl (pa_cons (pv 4) (pa_cons (pv 2) pa_nil))) pa_nil))) pa_nil))))))
      (pss_cons (ps_set (i := 6) nd rfl (by first | exact .inl rfl | exact .inr rfl) (pe_ifExp (pt_val (pe_calD c_is_above hr (by decide) rfl (pa_cons (pv 2) (pa_cons (pv 4) pa_nil)))) pe_non (pe_calD c_with_range hr (by decide) rfl (pa_cons (pv 0) (pa_cons (pv 1) (pa_cons (pe_tup (pa_cons (pe_calD c_sharper_low hr (by decide) rfl (pa_cons (pv 3) (pa_cons (pv 2) pa_nil))) (pa_cons (pv 4) pa_nil))) pa_nil))))))
      (pss_one (ps_ret (pe_tup (pa_cons (pv 5) (pa_cons (pv 6) pa_nil)))))))), fun ds d hR => ?_⟩
  · obtain ⟨b, i, v, hb, hi, hv, rfl, rfl⟩ := h; rfl
  obtain ⟨b, i, v, hb, hi, hv, rfl, rfl⟩ := hR
  have hr1 := hb.2 _ (rAt_mem hi)
  have hx : atI (b.map eR) (i : Int) = some (eR (rAt b i)) := by apply atI_nat; rw [List.getElem?_map, rAt_get hi]; rfl
  have o1 : OOk (some v) := .some hv
  refine' run_seq (run_asg (ev_op (a := eB b) (b := .int (i : Nat)) ?_ ?_ (op_ixT hx)) (eg_tup rfl (egs_cons eg_name (egs_cons eg_name egs_nil))) ?_)
  · walk_at "go"
  · walk_at "go"
  refine' run_seq (run_set (d := eOB (belowF b i v)) (ev_if (et_B (ev_call ?_ (r_is_above hr1.1 o1))) (fun e => ?_) (fun e => ?_)) ?_)
  · walk_at "go"
  · unfold belowF; rw [if_pos e]; exact ev_non
  · unfold belowF; rw [if_neg (by rw [e]; decide)]
    refine' ev_call (ea_cons ?_ (ea_cons ?_ (ea_cons (ev_tup (ea_cons ?_ (ea_cons (ev_call ?_ (r_sharper_high hr1.2 o1)) ea_nil)) (Nat.le_of_ble_eq_true rfl)) ea_nil))) (r_with_range (r := (_, _)) hb.1 hi)
    walk_at "go"
  refine' run_seq (run_set (d := eOB (overF b i v)) (ev_if (et_B (ev_call ?_ (r_is_above o1 hr1.2))) (fun e => ?_) (fun e => ?_)) ?_)
  · walk_at "go"
  · unfold overF; rw [if_pos e]; exact ev_non
  · unfold overF; rw [if_neg (by rw [e]; decide)]
    refine' ev_call (ea_cons ?_ (ea_cons ?_ (ea_cons (ev_tup (ea_cons (ev_call ?_ (r_sharper_low hr1.1 o1)) (ea_cons ?_ ea_nil)) (Nat.le_of_ble_eq_true rfl)) ea_nil))) (r_with_range (r := (_, _)) hb.1 hi)
    walk_at "go"
  refine' run_ret (ev_tup (ea_cons (a := eOB (belowF b i v)) ?_ (ea_cons (a := eOB (overF b i v)) ?_ ea_nil)) (Nat.le_of_ble_eq_true rfl)) ?_
  walk_at "go"
end
end Bx
namespace Bx
open PySem PySem.Spec L2 PyProof.Rows
abbrev eN (i : Nat) : PyData := .str ⟨#[97 + i]⟩
abbrev eNs (n : Nat) : PyData := .tuple ((List.range n).map eN)
theorem op_sign {c : Nat} {z : PySem.Str} : OpD (fun x y H Q => ∃ (c : Nat) (z : PySem.Str), x = .str ⟨#[c]⟩ ∧ y = .str z ∧ Q (.bl (decide (c ∈ z.cps.toList))) H) (.str ⟨#[c]⟩) (.str z) (.bool (decide (c ∈ z.cps.toList))) := fun k h x y s rx ry Q q => ⟨c, z, rx.str_inv, ry.str_inv, q _ k h (.refl s) (.bl _)⟩
theorem op_ltS {i j : PySem.Str} : OpD (fun x y H Q => ∃ i j, x = .str i ∧ y = .str j ∧ Q (.bl (decide (i.cps.toList < j.cps.toList))) H) (.str i) (.str j) (.bool (decide (i.cps.toList < j.cps.toList))) := fun k h x y s rx ry Q q => ⟨i, j, rx.str_inv, ry.str_inv, q _ k h (.refl s) (.bl _)⟩
theorem od_le {i j : Int} (h : i ≤ j) : OpD (rI0 fun i j => .bl (decide (i ≤ j))) (.int i) (.int j) (.bool true) := by
  have w := op_ib (f := fun i j => decide (i ≤ j)) (i := i) (j := j)
  rw [decide_eq_true h] at w
  exact w
local macro_rules | `(tactic| walk_at "ev") => `(tactic| repeat' (first
  | with_reducible exact ev_int
  | ((with_reducible apply ev_var); exact rfl)
  | with_reducible exact ev_non
  | with_reducible exact ev_bl
  | with_reducible exact ev_str
  | with_reducible exact ea_nil
  | with_reducible apply ea_cons
  | with_reducible apply et_test
  | with_reducible apply et_B
  | with_reducible exact et_yes
  | with_reducible apply ev_op
  | with_reducible exact op_ii
  | with_reducible exact op_ib
  | ((with_reducible apply op_ixT); exact rfl)
  | ((with_reducible apply op_ixL); exact rfl)
  | with_reducible exact op_isN'
  | with_reducible exact op_notN'
  | ((with_reducible show OpD (fun x y H Q => y = _ ∧ _) _ _ _); first | exact op_isN' | exact op_notN')
  | with_reducible refine' ev_tup ?_ (Nat.le_of_ble_eq_true rfl)
  | with_reducible refine' ev_lst ?_ (Nat.le_of_ble_eq_true rfl)
  | with_reducible apply ev_call
  | with_reducible apply ev_calK
  | with_reducible apply ev_un
  | with_reducible exact un_i
  | with_reducible apply et_not
  | with_reducible apply ev_not
  | ((with_reducible apply op_iC); first | assumption | exact FOk.mul (by assumption) _)
  | with_reducible apply ev_cb
  | with_reducible exact ca_lenL'
  | with_reducible exact ca_lenT'
  | with_reducible exact ca_int
  | with_reducible exact ca_abs
  | with_reducible exact ca_tuple'
  | ((with_reducible apply ev_and))
  | ((with_reducible refine fun (hh : _ = _) => ?_); first | cases hh | skip)))
local macro_rules | `(tactic| walk_at "go") => `(tactic| ((all_goals (walk_at "ev")); (all_goals (try exact rfl))))
section
variable {P : Program} {w : World} {K : PySem.W.Frag} {mg : PySem.Str → Option Value} {base : Heap} {f : Addr} {fd : FuncData}
/-- .. that answers None at its end -/
theorem fun_none {x qual : PySem.Str} {st : Stmt} {N ps : List PySem.Str} {k : Nat} {R : List PyData → PyData → Prop} (F : Fun K x qual st f fd) (S : FnScope N ps (defScope st)) (len : ∀ ds d, R ds d → ds.length = ps.length)
    (body : ∀ (cdv : Value) (A : Around) (outer : List PySem.Env) (s : Shared) (H : Hp) (E : XK), Room k (A.deeper (envOfC qual (defScope st) s.heap.objs.size f cdv)) →
      ∃ t, PSs (cxOf CX0 P w K mg base N qual (defScope st) f cdv A outer s H E).nox (defBody st) t ∧ ∀ ds d, R ds d → d = .none ∧ Run t (startG N.length (ds.map Sl.dat)) { nx := fun _ => True }) :
    FnOk P w K mg base CX0 (k + 1) f fd ps (spD R) := by
  have hp : ps.length ≤ N.length := by have := congrArg List.length S.pre; rw [List.length_take] at this; omega
  refine F.ok S (fun vs H Q E ⟨k', ds, d, s, r, hr, q⟩ => by rw [r.length]; exact len ds d hr) fun cdv A outer s H vs Q E hr ⟨k', ds, d, s', r, hR, q⟩ => ?_
  obtain ⟨t, ht, hb⟩ := body cdv A outer s H E hr
  refine ⟨t, ht, ?_⟩
  obtain ⟨rfl, hb⟩ := hb ds d hR
  refine hb M0 k' H k' H (L2.start N vs) (.refl s') (fun i s v e1 e2 => ?_) (start_dat r (by rw [len ds _ hR]; exact hp)) { nx := fun _ H' => Q .non H', rt := Q } ⟨fun Γ k2 h2 σ z l _ _ => q _ k2 h2 l .non, fun _ _ _ _ _ _ z => z.elim, fun _ _ _ _ z => z.elim, fun _ _ _ _ z => z.elim⟩
  unfold startG at e1
  by_cases hi : i < (ds.map Sl.dat).length
  · rw [List.getElem?_append_left hi, List.getElem?_map] at e1
    cases q : ds[i]? with
    | none => rw [q] at e1; cases e1
    | some d => rw [q] at e1; cases e1; trivial
  · rw [List.getElem?_append_right (by omega), List.getElem?_replicate] at e1
    split at e1
    · cases e1; trivial
    · cases e1
abbrev s_is_name : Stmt := topS 9
abbrev N_is_name : List PySem.Str := ["value", "sign"]
abbrev p_is_name : List PySem.Str := ["value"]
theorem sc_is_name : FnScope N_is_name p_is_name (defScope s_is_name) := ⟨rfl, rfl, rfl, by decide +kernel, rfl, by decide +kernel, by decide +kernel⟩
def R_is_name (ds : List PyData) (d : PyData) : Prop := ∃ i : Nat, i < 26 ∧ ds = [eN i] ∧ d = .bool true
theorem ok_is_name (F : Fun K "is_name" "is_name" s_is_name f fd) (B : Blt mg) (q_LETTERS : ∃ t, mg "LETTERS" = some (.str "abcdefghijklmnopqrstuvwxyz" t)) (q_LONGEST_NAME : ∃ t, mg "LONGEST_NAME" = some (.int 5 t)) : FnOk P w K mg base CX0 1 f fd p_is_name (spD R_is_name) := by
  have nd := sc_is_name.nd
  obtain ⟨t_LETTERS, m_LETTERS⟩ := q_LETTERS
  obtain ⟨t_LONGEST_NAME, m_LONGEST_NAME⟩ := q_LONGEST_NAME
  refine fun_pure F sc_is_name (fun _ _ h => ?_) fun cdv A outer s H E hr => ⟨_, (pss_cons (ps_if (PW.pt (pw_or (pt_not (pt_val (pe_callB (k_isi K rfl) rfl B.isinstance (by decide +kernel) (pa_cons (pv 0) (pa_cons (pe_bltn (v := .ty "str") rfl B.str (by decide +kernel) rfl) pa_nil))))) (pw_or1 (pt_not (pt_chain op_le op_le pe_int (pe_callB call_len_str rfl B.len (by decide +kernel) (pa_cons (pv 0) pa_nil)) (pe_glob (v := V.int 5) rfl m_LONGEST_NAME ⟨_, rfl⟩)))))) (pss_one (ps_ret pe_bl)) pss_nil)
      (pss_one (ps_ret (pe_callB (k_all K rfl rfl) rfl B.all (by decide +kernel) (pa_cons (pe_lc (own := [("sign", 1)]) rfl nd (pi_str (pv 0)) (blkOk_by (by kernel_rfl)) (fun _ _ _ _ _ => (pg_name (i := 1) nd rfl (by first | exact .inl rfl | exact .inr rfl))) (fun _ _ _ _ _ => pts_nil) (fun _ _ _ _ _ => (pe_cmpR op_in_sign (pv 1) (pe_glob (v := V.str "abcdefghijklmnopqrstuvwxyz") rfl m_LETTERS ⟨_, rfl⟩) (by rfl)))) pa_nil))))), fun ds d hR => ?_⟩
  · obtain ⟨i, hi, rfl, rfl⟩ := h; rfl
  obtain ⟨i, hi, rfl, rfl⟩ := hR
  have hin : decide (97 + i ∈ ("abcdefghijklmnopqrstuvwxyz" : PySem.Str).cps.toList) = true := by
    have : ∀ j : Fin 26, decide (97 + j.val ∈ ("abcdefghijklmnopqrstuvwxyz" : PySem.Str).cps.toList) = true := by decide +kernel
    exact this ⟨i, hi⟩
  refine' run_seq (run_if0 (et_or0 (et_not (et_test (ev_isi (b := true) (d := eN i) ?_ rfl))) (et_not (et_test (ev_chain (c := true) (e := true) ?_ (ev_cb (ea_cons (a := eN i) ?_ ea_nil) (ca_lenS (Nat.le_of_ble_eq_true rfl))) (od_le (by show (1 : Int) ≤ 1; decide)) (fun _ => ?_) (fun _ => od_le (by show (1 : Int) ≤ 5; decide)))))) rfl (run_next ?_))
  walk_at "go"
  refine' run_ret (ev_cb (ea_cons (el_d (el_map [97 + i] (fun c => .str ⟨#[c]⟩) (fun _ => .bool true) (ei_str (z := ⟨#[97 + i]⟩) ?_) (Nat.le_of_ble_eq_true rfl) rfl fun c hc => ⟨_, _, eg_name, rfl, ev_is (ev_op ?_ ?_ (op_sign (c := c))) ?_⟩)) ea_nil) (ca_allm (xs := [97 + i]) (g := fun _ => true))) ?_
  walk_at "go"
  rw [List.mem_singleton.mp hc]
  exact congrArg PyData.bool hin
abbrev s_is_name_lot : Stmt := topS 10
abbrev N_is_name_lot : List PySem.Str := ["value", "item", "at"]
abbrev p_is_name_lot : List PySem.Str := ["value"]
theorem sc_is_name_lot : FnScope N_is_name_lot p_is_name_lot (defScope s_is_name_lot) := ⟨rfl, rfl, rfl, by decide +kernel, rfl, by decide +kernel, by decide +kernel⟩
def R_is_name_lot (ds : List PyData) (d : PyData) : Prop := ∃ n : Nat, 1 ≤ n ∧ n ≤ 6 ∧ ds = [eNs n] ∧ d = .bool true
theorem ok_is_name_lot (F : Fun K "is_name_lot" "is_name_lot" s_is_name_lot f fd) (B : Blt mg) (c_is_name : Cal P w K mg base 1 "is_name" p_is_name (spD R_is_name)) : FnOk P w K mg base CX0 2 f fd p_is_name_lot (spD R_is_name_lot) := by
  have nd := sc_is_name_lot.nd
  refine fun_pure F sc_is_name_lot (fun _ _ h => ?_) fun cdv A outer s H E hr => ⟨_, (pss_cons (ps_if (PW.pt (pw_or (pt_not (pt_val (pe_callB (k_isi K rfl) rfl B.isinstance (by decide +kernel) (pa_cons (pv 0) (pa_cons (pe_bltn (v := .ty "tuple") rfl B.tuple (by decide +kernel) rfl) pa_nil))))) (pw_or1 (pt_not (pt_val (pe_callB (k_all K rfl rfl) rfl B.all (by decide +kernel) (pa_cons (pe_lc (own := [("item", 1)]) rfl nd (ki_tup K rfl (pv 0)) (blkOk_by (by kernel_rfl)) (fun _ _ _ _ _ => (pg_name (i := 1) nd rfl (by first | exact .inl rfl | exact .inr rfl))) (fun _ _ _ _ _ => pts_nil) (fun _ _ _ _ _ => (pe_calD c_is_name hr (by decide) rfl (pa_cons (pv 1) pa_nil)))) pa_nil))))))) (pss_one (ps_ret pe_bl)) pss_nil)
      (pss_one (ps_ret (pe_callB (k_all K rfl rfl) rfl B.all (by decide +kernel) (pa_cons (pe_lc (own := [("at", 2)]) rfl nd (pi_range1 rfl B.range (pa_cons (pe_op op_sub (pe_callB (k_len K rfl) rfl B.len (by decide +kernel) (pa_cons (pv 0) pa_nil)) pe_int) pa_nil)) (blkOk_by (by kernel_rfl)) (fun _ _ _ _ _ => (pg_name (i := 2) nd rfl (by first | exact .inl rfl | exact .inr rfl))) (fun _ _ _ _ _ => pts_nil) (fun _ _ _ _ _ => (pe_cmpR op_lt_str (pe_ix (k_ixT K rfl) (pv 0) (pv 2) (fun _ _ => rfl)) (pe_ix (k_ixT K rfl) (pv 0) (pe_op op_add (pv 2) pe_int) (fun _ _ => rfl)) (nomark _)))) pa_nil))))), fun ds d hR => ?_⟩
  · obtain ⟨n, h1, h6, rfl, rfl⟩ := h; rfl
  obtain ⟨n, h1, h6, rfl, rfl⟩ := hR
  refine' run_seq (run_if0 (et_or0 (et_not (et_test (ev_isi (b := true) (d := eNs n) ?_ rfl))) (et_not (et_test (ev_is (ev_cb (ea_cons (el_d (el_map (List.range n) eN (fun _ => .bool true) (ei_tup ?_) (by rw [List.length_range]; omega) rfl fun i hi => ⟨_, _, eg_name, rfl, ev_call ?_ ⟨i, by have := List.mem_range.mp hi; omega, rfl, rfl⟩⟩)) ea_nil) (ca_allm (xs := List.range n) (g := fun _ => true))) (congrArg PyData.bool (List.all_eq_true.mpr fun _ _ => rfl)))))) rfl (run_next ?_))
  walk_at "go"
  refine' run_ret (ev_is (ev_cb (ea_cons (el_d (el_map (List.range (n - 1)) (fun i => .int ((i : Nat) : Int)) (fun _ => .bool true) ?_ (by rw [List.length_range]; omega) rfl fun i hi => ⟨_, _, eg_name, rfl, ?_⟩)) ea_nil) (ca_allm (xs := List.range (n - 1)) (g := fun _ => true))) (congrArg PyData.bool (List.all_eq_true.mpr fun _ _ => rfl))) ?_
  · have e : ((n : Int) - 1).toNat = n - 1 := by omega
    rw [← e]
    refine' ei_range1 (n := (n : Int) - 1) (ea_cons (ev_is (ev_op (a := .int (n : Int)) (b := .int 1) (ev_is (ev_cb (ea_cons (a := eNs n) ?_ ea_nil) ca_lenT') (by rw [List.length_map, List.length_range])) ?_ op_ii) rfl) ea_nil) (by omega) (by omega)
    walk_at "go"
  · have hi := List.mem_range.mp hi
    have g1 : ∀ j, j < n → atI ((List.range n).map eN) ((j : Nat) : Int) = some (eN j) := fun j hj => atI_nat (by rw [List.getElem?_map, List.getElem?_range hj]; rfl)
    refine' ev_is (ev_op (ev_op (a := eNs n) (b := .int (i : Int)) ?_ ?_ (op_ixT (g1 i (by omega)))) (ev_op (a := eNs n) (b := .int ((i : Int) + 1)) ?_ (ev_op (a := .int (i : Int)) (b := .int 1) ?_ ?_ op_ii) (op_ixT (g1 (i + 1) (by omega)))) op_ltS) ?_
    walk_at "go"
    refine congrArg PyData.bool (decide_eq_true ?_)
    show [97 + i] < [97 + (i + 1)]
    exact List.Lex.rel (by omega)
  · exact rfl
abbrev s_check_system : Stmt := topS 35
abbrev N_check_system : List PySem.Str := ["names", "rows", "at", "row"]
abbrev p_check_system : List PySem.Str := ["names", "rows"]
theorem sc_check_system : FnScope N_check_system p_check_system (defScope s_check_system) := ⟨rfl, rfl, rfl, by decide +kernel, rfl, by decide +kernel, by decide +kernel⟩
def R_check_system (ds : List PyData) (d : PyData) : Prop := ∃ n : Nat, 1 ≤ n ∧ n ≤ 6 ∧ ds = [eNs n, .tuple []] ∧ d = .none
theorem ok_check_system (F : Fun K "check_system" "check_system" s_check_system f fd) (B : Blt mg) (c_is_name_lot : Cal P w K mg base 2 "is_name_lot" p_is_name_lot (spD R_is_name_lot)) (q_MOST_NAMES : ∃ t, mg "MOST_NAMES" = some (.int 6 t)) : FnOk P w K mg base CX0 3 f fd p_check_system (spD R_check_system) := by
  have nd := sc_check_system.nd
  obtain ⟨t_MOST_NAMES, m_MOST_NAMES⟩ := q_MOST_NAMES
  refine fun_none F sc_check_system (fun _ _ h => ?_) fun cdv A outer s H E hr => ⟨_, (pss_cons (ps_if (PW.pt (pw_or (pt_not (pt_val (pe_calD c_is_name_lot hr (by decide) rfl (pa_cons (pv 0) pa_nil)))) (pw_or (pt_not (pt_chain op_le op_le pe_int (pe_callB (k_len K rfl) rfl B.len (by decide +kernel) (pa_cons (pv 0) pa_nil)) (pe_glob (v := V.int 6) rfl m_MOST_NAMES ⟨_, rfl⟩))) (pw_or1 (pt_not (pt_val (pe_callB (k_isi K rfl) rfl B.isinstance (by decide +kernel) (pa_cons (pv 1) (pa_cons (pe_bltn (v := .ty "tuple") rfl B.tuple (by decide +kernel) rfl) pa_nil))))))))) (pss_one ps_never) pss_nil)
      (pss_one (ps_for PassesOwn.never rfl (ki_enum K rfl rfl B.enumerate (pa_cons (pv 1) pa_nil)) (kg_tup (n := 2) K rfl rfl (pgs_cons (pg_name (i := 2) nd rfl (by first | exact .inl rfl | exact .inr rfl)) (pgs_cons (pg_name (i := 3) nd rfl (by first | exact .inl rfl | exact .inr rfl)) pgs_nil))) pss_never))), fun ds d hR => ?_⟩
  · obtain ⟨n, h1, h6, rfl, rfl⟩ := h; rfl
  obtain ⟨n, h1, h6, rfl, rfl⟩ := hR
  refine ⟨rfl, ?_⟩
  have e1 : (1 : Int) ≤ ((List.range n).map eN).length := by rw [List.length_map, List.length_range]; omega
  have e2 : (((List.range n).map eN).length : Int) ≤ 6 := by rw [List.length_map, List.length_range]; omega
  refine' run_seq (run_if0 (et_or0 (et_not (c := true) (et_B (ev_call ?_ (⟨n, h1, h6, rfl, rfl⟩ : R_is_name_lot [eNs n] (.bool true))))) (et_or0 (et_not (et_test (ev_chain (c := true) (e := true) ?_ (ev_cb (ea_cons (a := eNs n) ?_ ea_nil) ca_lenT') (od_le e1) (fun _ => ?_) (fun _ => od_le e2)))) (et_not (et_test (ev_isi (b := true) (d := .tuple []) ?_ rfl))))) rfl (run_next ?_))
  walk_at "go"
  refine' run_for (ds := []) (ei_enumT (ds := []) ?_) (fun _ _ => True) trivial (fun i d Γi ed => by cases ed) (fun _ _ => trivial)
  walk_at "go"
/-! ### a system -/
abbrev s_Init : Stmt := inClass (topS 36) 0
abbrev N_Init : List PySem.Str := ["self", "names", "rows"]
abbrev p_Init : List PySem.Str := ["self", "names", "rows"]
theorem sc_Init : FnScope N_Init p_Init (defScope s_Init) := ⟨rfl, rfl, rfl, by decide +kernel, rfl, by decide +kernel, by decide +kernel⟩
structure SysT (K : PySem.W.Frag) (C : Addr) : Prop where
  cl : Cls K C
  nN : NoAttr K C "names"
  nR : NoAttr K C "rows"
def spInit (C : Addr) : Sp := fun vs H Q _ => ∃ (p dx : Addr) (nv rv : V) (k : Hp) (n : Nat), vs = [.ref p, nv, rv] ∧ (1 ≤ n ∧ n ≤ 6) ∧ Same k H ∧ k p = none ∧ H p = some (.ins C dx []) ∧ Dq k nv (eNs n) ∧ Dq k rv (.tuple []) ∧
  ∀ k' H' fs, LeM (fun q => q = p) k H k' H' → k' p = none → H' p = some (.ins C dx fs) → fs.lookup ("names" : PySem.Str) = some nv → Q .non H'
theorem lk_names (nv rv : V) : (putF "rows" rv (putF "names" nv [])).lookup ("names" : PySem.Str) = some nv := by
  rw [lookup_putF, if_neg (by decide +kernel), lookup_putF, if_pos rfl]
theorem ok_Init {C : Addr} (F : Fun K "__init__" "System.__init__" s_Init f fd) (T : SysT K C) (c_check_system : Cal P w K mg base 3 "check_system" p_check_system (spD R_check_system)) : FnOk P w K mg base CX0 4 f fd p_Init (spInit C) := by
  refine F.ok sc_Init (fun vs H Q E h => ?_) (fun cdv A outer s H vs Q E hr h => ?_)
  · obtain ⟨p, dx, nv, rv, k, n, rfl, _⟩ := h
    rfl
  · obtain ⟨p, dx, nv, rv, k, n, rfl, hn, s0, p0, hp, r1, r2, q⟩ := h
    refine ⟨_, pss_cons (ps_expr (pe_calD c_check_system hr (by decide) rfl (pa_cons (pv 1) (pa_cons (pv 2) pa_nil)))) (pss_cons (ps_fld (pv 0) (pv 1) rfl) (pss_one (ps_fld (pv 0) (pv 2) rfl))), ?_⟩
    have E0' : Env k H (L2.start N_Init [.ref p, nv, rv]) [.non, .dat (eNs n), .dat (.tuple [])] := start_env (N := N_Init) (ss := [.non, .dat (eNs n), .dat (.tuple [])]) rfl (Nat.le_of_ble_eq_true rfl) (fun i sl e => by
        match i with
        | 0 => cases e; exact ⟨_, rfl, trivial⟩
        | 1 => cases e; exact ⟨_, rfl, _, rfl, r1⟩
        | 2 => cases e; exact ⟨_, rfl, _, rfl, r2⟩
        | i + 3 => cases e) fun i j sl t v u ij e1 e2 f1 f2 a w1 w2 => by
        match i with
        | 0 => cases e1; exact w1
        | 1 => cases e1; exact w1
        | 2 => cases e1; exact w1
        | i + 3 => cases e1
    have ev : EvD (tCall (spD R_check_system) [] E0 (tCons (tVar 1) (tCons (tVar 2) tNil))) [.non, .dat (eNs n), .dat (.tuple [])] .none := ev_call (ea_cons (ev_var rfl) (ea_cons (ev_var rfl) ea_nil)) (⟨n, hn.1, hn.2, rfl, rfl⟩ : R_check_system [eNs n, .tuple []] .none)
    refine ev k H _ s0 E0' _ fun v k1 H1 l _ => ?_
    have hp1 : H1 p = some (.ins C dx []) := l.same _ _ hp
    have n1 : k1 p = none := l.sp p (ne_none_of hp) p0
    refine ⟨nv, rfl, .ref p, rfl, p, C, dx, [], rfl, hp1, T.cl, T.nN, (by show 0 < 1000; decide), rv, rfl, .ref p, rfl, p, C, dx, _, rfl, upd_same, T.cl, T.nR, (by show 1 < 1000; decide), ?_⟩
    refine q k1 _ _ ⟨l.kk, fun x o hx z => ?_, fun x o z => ?_, l.sp, fun x z => ?_⟩ n1 upd_same (lk_names nv rv)
    · rw [upd_ne hx, upd_ne hx]; exact l.hh x o (fun m => m) z
    · have hx : x ≠ p := fun e => by rw [e, n1] at z; cases z
      rw [upd_ne hx, upd_ne hx]; exact l.kh x o z
    · by_cases hx : x = p
      · rw [hx, upd_same]; exact fun z => nomatch z
      · rw [upd_ne hx, upd_ne hx]; exact l.al x z
abbrev s_free_box : Stmt := topS 17
abbrev N_free_box : List PySem.Str := ["system", "name"]
abbrev p_free_box : List PySem.Str := ["system"]
theorem sc_free_box : FnScope N_free_box p_free_box (defScope s_free_box) := ⟨rfl, rfl, rfl, by decide +kernel, rfl, by decide +kernel, by decide +kernel⟩
def spFree (C : Addr) : Sp := fun vs H Q _ => ∃ (p dx : Addr) (fs : List (PySem.Str × V)) (nv : V) (k : Hp) (n : Nat), vs = [.ref p] ∧ n ≤ 6 ∧ Same k H ∧ H p = some (.ins C dx fs) ∧ fs.lookup ("names" : PySem.Str) = some nv ∧ Dq k nv (eNs n) ∧
  ∀ v k' H', Le k H k' H' → Dq k' v (eB (List.replicate n (none, none))) → Q v H'
theorem ok_free_box {C : Addr} (F : Fun K "free_box" "free_box" s_free_box f fd) (B : Blt mg) (T : SysT K C) : FnOk P w K mg base CX0 1 f fd p_free_box (spFree C) := by
  have nd := sc_free_box.nd
  refine F.ok sc_free_box (fun vs H Q E h => ?_) (fun cdv A outer s H vs Q E hr h => ?_)
  · obtain ⟨p, dx, fs, nv, k, n, rfl, _⟩ := h
    rfl
  · obtain ⟨p, dx, fs, nv, k, n, rfl, hn, s0, hp, lk, r1, q⟩ := h
    refine ⟨_, (pss_one (ps_ret (pe_callTy (k_tuple K rfl) rfl B.tuple (by decide +kernel) (pa_cons (pe_lc (own := [("name", 1)]) rfl nd (ki_tup K rfl (k_fld K rfl (pv 0) rfl)) (blkOk_by (by kernel_rfl)) (fun _ _ _ _ _ => (pg_name (i := 1) nd rfl (by first | exact .inl rfl | exact .inr rfl))) (fun _ _ _ _ _ => pts_nil) (fun _ _ _ _ _ => (pe_tup (pa_cons pe_non (pa_cons pe_non pa_nil))))) pa_nil)))), ?_⟩
    have E1 : Env k H [some nv, none] [.dat (eNs n), .non] := by
      refine ⟨rfl, fun i sl e => ?_, fun i j sl t v u ij e1 e2 f1 f2 a w1 w2 => ?_⟩
      · match i with
        | 0 => cases e; exact ⟨_, rfl, _, rfl, r1⟩
        | 1 => cases e; exact ⟨_, rfl, trivial⟩
        | i + 2 => cases e
      · match i with
        | 0 => cases e1; exact w1
        | 1 => cases e1; exact w1
        | i + 2 => cases e1
    have ev : EvD (tCB (rTupK K) (tCons (tLc (iTup K (tVar 0)) (gName 1) tYes (tTup (tCons (tC .non) (tCons (tC .non) tNil))) [1]) tNil)) [.dat (eNs n), .non] (eB (List.replicate n (none, none))) := by
      refine' ev_is (ev_cb (ea_cons (el_d (el_map (List.range n) eN (fun _ => eR (none, none)) (ei_tup ?_) (by rw [List.length_range]; omega) rfl fun i hi => ⟨_, _, eg_name, rfl, ?_⟩)) ea_nil) ca_tuple') ?_
      walk_at "go"
      show PyData.tuple _ = .tuple ((List.replicate n ((none, none) : Rf)).map eR)
      rw [List.map_replicate, ← List.length_range (n := n), ← List.map_const, List.length_range]
      rfl
    obtain ⟨u, eu, p', ep, hx, hrest⟩ := ev k H _ s0 E1 _ q
    refine ⟨.ref p, rfl, p, C, dx, fs, nv, rfl, hp, T.cl, T.nN, lk, p', by rw [← ep]; exact Option.some.inj (Option.some.inj eu), hx, fun D hD => ?_⟩
    obtain ⟨W, hW0, hstep⟩ := hrest D hD
    refine ⟨W, hW0, fun i m H1 w1 => ?_⟩
    rcases hstep i m H1 w1 with h1 | ⟨go, Nx, hN, hy⟩
    · exact .inl h1
    · exact .inr ⟨go, Nx, hN, fun x H' y => ⟨rfl, (hy x H' y).2⟩⟩
/-- free_box(System(names, ())) -/
theorem ev_free {C : Addr} {Γ : Ge} {targ : TA} {n : Nat} (hn : 1 ≤ n ∧ n ≤ 6) (h : EvA targ Γ [eNs n, .tuple []]) : EvD (tCall (spFree C) [] E0 (tCons (tMake C (spInit C) [] E0 targ) tNil)) Γ (eB (List.replicate n (none, none))) := fun k hp σ s E Q q =>
  h k hp σ s E _ fun vs k1 h1 l1 r p dx np nd ne => by
    obtain ⟨nv, rv, rfl, r1, r2⟩ := r.two_inv
    have hs : Same h1 (upd (upd h1 dx (.own p)) p (.ins C dx [])) := fun x o z => by
      rw [upd_ne (ne_of_none z np), upd_ne (ne_of_none z nd)]; exact z
    have l2 := Le.grow l1.kh hs
    refine ⟨p, dx, nv, rv, k1, n, rfl, hn, l2.kh, l1.kh.free np, upd_same, r1, r2, fun k2 H2 fs l3 n2 hp2 lk => ⟨rfl, ?_⟩⟩
    have nh : hp p = none := l1.same.free np
    have l4 : Le k hp k2 H2 := by
      have l12 := l1.trans l2
      refine ⟨l12.kk.trans l3.kk, fun x o _ z => ?_, l3.kh, fun x z1 z2 => l3.sp x (l12.al x z1) (l12.sp x z1 z2), fun x z => l3.al x (l12.al x z)⟩
      refine l3.hh x o (fun e => ?_) (Le.same l12 _ _ z)
      rw [e, nh] at z; cases z
    refine ⟨p, dx, fs, nv, k2, n, rfl, hn.2, l3.kh, hp2, lk, r1.mono l3.kk, fun v k3 h3 l5 rv => q v k3 h3 (l4.trans l5) rv⟩
end
structure MakS (P : Program) (w : World) (K : PySem.W.Frag) (mg : PySem.Str → Option Value) (base : Heap) (k : Nat) (x : PySem.Str) (C : Addr) (sp : Sp) : Prop where
  ex : ∃ (f : Addr) (fd : FuncData) (ps : List PySem.Str), Mk K C f ∧ FnOk P w K mg base CX0 k f fd ps sp ∧ mg x = some (.ref C) ∧ Binds K fd ps []
theorem pe_mkS {X : Cx} {k j : Nat} {C : Addr} {x : PySem.Str} {sp : Sp} {p pos : PySem.Pos} {e : Expr} {es : List Expr} {t : TA} (c : MakS X.prog X.w X.K X.mg X.base k x C sp) (hr : Room j X.A) (hk : k + 1 ≤ j) (hg : Gl X x) (ha : PA X (e :: es) t)
    (hdb : (x == ("__debug__" : PySem.Str)) = false := by decide) (he : starEach (e :: es) X.env = (false, eval e X.env) :: starEach es X.env := by rfl) (hpl : (backTo pos (starEach es X.env)).any (·.1) = false := by rfl) :
    PE X (.Call (.Name x p) (e :: es) [] pos) (tMake C sp [] E0 t) := by
  obtain ⟨f, fd, ps, M, F, hm, b⟩ := c.ex
  exact pe_make M F (hr.mono hk) hg hm b .nil pass0 ha hdb he hpl
end Bx
namespace Bx
open PySem PySem.Spec L2 PyProof.Rows
/-! ### the draws' heap -/
structure Hv (a c : Addr) (h H : Hp) : Prop where
  fr : ∀ x o, x ≠ a → x ≠ c → h x = some o → H x = some o
  al : ∀ x, h x ≠ none → H x ≠ none
  has : ∃ (cs : List Int) (z : Int), H a = some (.lst [.ref c, .int z]) ∧ H c = some (.lst (cs.map V.int)) ∧ cs.length ≤ 60
theorem Hv.new {a c p : Addr} {h H : Hp} {o : HO} (v : Hv a c h H) (n : H p = none) : Hv a c h (upd H p o) := by
  obtain ⟨fr, al, cs, z, h1, h2, h3⟩ := v
  refine ⟨fun x o na nc e => ?_, fun x e => ?_, cs, z, ?_, ?_, h3⟩
  · rw [upd_ne (ne_of_none (fr x o na nc e) n)]; exact fr x o na nc e
  · by_cases hx : x = p
    · rw [hx, upd_same]; exact fun z => nomatch z
    · rw [upd_ne hx]; exact al x e
  · rw [upd_ne (ne_of_none h1 n)]; exact h1
  · rw [upd_ne (ne_of_none h2 n)]; exact h2
theorem Hv.cells {a c : Addr} {h H : Hp} {ds : List Int} (v : Hv a c h H) (ac : a ≠ c) (hd : ds.length ≤ 60) : Hv a c h (upd H c (.lst (ds.map V.int))) := by
  obtain ⟨fr, al, cs, z, h1, h2, h3⟩ := v
  refine ⟨fun x o na nc e => ?_, fun x e => ?_, ds, z, ?_, upd_same, hd⟩
  · rw [upd_ne nc]; exact fr x o na nc e
  · by_cases hx : x = c
    · rw [hx, upd_same]; exact fun z => nomatch z
    · rw [upd_ne hx]; exact al x e
  · rw [upd_ne ac]; exact h1
theorem Hv.stir {a c : Addr} {h H : Hp} {y : Int} (v : Hv a c h H) (ac : a ≠ c) : Hv a c h (upd H a (.lst [.ref c, .int y])) := by
  obtain ⟨fr, al, cs, z, h1, h2, h3⟩ := v
  refine ⟨fun x o na nc e => ?_, fun x e => ?_, cs, y, upd_same, ?_, h3⟩
  · rw [upd_ne na]; exact fr x o na nc e
  · by_cases hx : x = a
    · rw [hx, upd_same]; exact fun z => nomatch z
    · rw [upd_ne hx]; exact al x e
  · rw [upd_ne ac.symm]; exact h2
theorem Hv.done {a c : Addr} {k h H : Hp} (v : Hv a c h H) (s : Same k h) (ka : k a = none) (kc : k c = none) (ac : a ≠ c) : LeM (fun p => p = a ∨ p = c) k h k H ∧ HpAt k H a c :=
  ⟨⟨.refl _, fun x o m e => v.fr x o (fun z => m (.inl z)) (fun z => m (.inr z)) e, fun x o e => v.fr x o (fun z => by rw [z, ka] at e; cases e) (fun z => by rw [z, kc] at e; cases e) (s _ _ e), fun _ _ z => z, v.al⟩, v.has, ka, kc, ac⟩
theorem eqv_nil (cs : List Int) : PyData.eqv (.list (cs.map PyData.int)) (.list []) = cs.isEmpty := by cases cs <;> rfl
theorem shp_ints (cs : List Int) : Shp 1 (.list (cs.map PyData.int)) := .list fun x _ => ⟨rfl, Nat.zero_le _⟩
theorem t_ne {K : PySem.W.Frag} {σ : L2.St} {H : Hp} {a c : Addr} {cs : List Int} {z : Int} {Q : Bool → Hp → Prop} (e0 : σ[0]? = some (some (.ref a))) (ha : H a = some (.lst [.ref c, .int z])) (hc : H c = some (.lst (cs.map V.int)))
    (q : ∀ p, H p = none → Q (!cs.isEmpty) (upd H p (.lst []))) : tTest (tOp (rNeD K) (tOp (rIxL K) (tVar 0) (tC (.int 0))) (tLst tNil)) σ H Q :=
  ⟨.ref a, e0, a, _, 0, .ref c, rfl, rfl, .inl (.inl ha), rfl, Nat.zero_le _, fun p hp => ⟨.list (cs.map PyData.int), .list [], Dq.dp K (.lst (by rw [upd_ne (ne_of_none hc hp)]; exact hc) (DqAll.ofInts cs)), Dq.dp K (.lst upd_same .nil), (shp_ints cs).ok (by decide), rfl, _, rfl, by rw [eqv_nil]; exact q p hp⟩⟩
theorem atI_neg1 {α : Type} {xs : List α} {x : α} (h : xs.getLast? = some x) : atI xs (-1) = some x := by
  have hl : 0 < xs.length := by cases xs with | nil => cases h | cons _ _ => exact Nat.succ_pos _
  unfold atI ixN
  rw [if_neg (by decide), if_pos (by omega)]
  rw [List.getLast?_eq_getElem?] at h
  show xs[((-1 : Int) + xs.length).toNat]? = some x
  rw [← h]
  congr 1
  omega
abbrev tInt (t : TA) : TE := tCB (fun xs H Q => (∃ i, xs = [.int i] ∧ Q (.int i) H) ∨ ∃ k, xs = [.bl k] ∧ Q (.int (if k = true then 1 else 0)) H) t
abbrev drT (K : PySem.W.Frag) : TE := tOp (rIxL K) (tVar 0) (tC (.int 0))
abbrev drM (ta tb : TE) : TE := tOp (rI (fun x j => 0 < j) fun i j => V.int (i % j)) ta tb
def drRest (K : PySem.W.Frag) : TS :=
  tSeq (tIfS (tTest (tOp (rNeD K) (drT K) (tLst tNil)))
      (tSeq (tAsg (tBM0 K "list" rPop (drT K)) (gName 2))
        (tSeq (tDrop (tBM K "list" rAppend (drT K) (tCons (tOp (rI CDiv fun i j => V.int (i / j)) (tVar 2) (tVar 1)) tNil)))
          (tRet (drM (tInt (tCons (tVar 2) tNil)) (tVar 1))))) tNext)
    (tSeq (tAsg (drM (tInt (tCons (tOp (rI0 fun i j => V.int (i + j)) (tOp (rI CMul fun i j => V.int (i * j)) (tOp (rIxL K) (tVar 0) (tC (.int 1))) (tC (.int 48271))) (tC (.int 11))) tNil)) (tC (.int 2147483647))) (gSub (tVar 0) (tC (.int 1)) rSetL))
      (tRet (drM (tInt (tCons (tOp (rI CDiv fun i j => V.int (i / j)) (tOp (rIxL K) (tVar 0) (tC (.int 1))) (tC (.int 64))) tNil)) (tVar 1))))
local macro_rules | `(tactic| walk_at "ev") => `(tactic| repeat' (first
  | with_reducible exact ev_int
  | ((with_reducible apply ev_var); exact rfl)
  | with_reducible exact ev_non
  | with_reducible exact ev_bl
  | with_reducible exact ev_str
  | with_reducible exact ea_nil
  | with_reducible apply ea_cons
  | with_reducible apply et_test
  | with_reducible apply et_B
  | with_reducible exact et_yes
  | with_reducible apply ev_op
  | with_reducible exact op_ii
  | with_reducible exact op_ib
  | ((with_reducible apply op_ixT); exact rfl)
  | ((with_reducible apply op_ixL); exact rfl)
  | with_reducible exact op_isN'
  | with_reducible exact op_notN'
  | ((with_reducible show OpD (fun x y H Q => y = _ ∧ _) _ _ _); first | exact op_isN' | exact op_notN')
  | with_reducible refine' ev_tup ?_ (Nat.le_of_ble_eq_true rfl)
  | with_reducible refine' ev_lst ?_ (Nat.le_of_ble_eq_true rfl)
  | with_reducible apply ev_call
  | with_reducible apply ev_calK
  | with_reducible apply ev_un
  | with_reducible exact un_i
  | with_reducible apply et_not
  | with_reducible apply ev_not
  | ((with_reducible apply op_iC); first | assumption | exact FOk.mul (by assumption) _)
  | with_reducible apply ev_cb
  | with_reducible exact ca_lenL'
  | with_reducible exact ca_lenT'
  | with_reducible exact ca_int
  | with_reducible exact ca_abs
  | with_reducible exact ca_tuple'
  | ((with_reducible apply ev_and))
  | ((with_reducible refine fun (hh : _ = _) => ?_); first | cases hh | skip)))
local macro_rules | `(tactic| walk_at "go") => `(tactic| ((all_goals (walk_at "ev")); (all_goals (try exact rfl))))
section
variable {P : Program} {w : World} {K : PySem.W.Frag} {mg : PySem.Str → Option Value} {base : Heap} {f : Addr} {fd : FuncData}
abbrev s__law_draw : Stmt := topS 39
abbrev N__law_draw : List PySem.Str := ["_law_heap_here", "_law_many", "_law_rest"]
abbrev p__law_draw : List PySem.Str := ["_law_heap_here", "_law_many"]
theorem sc__law_draw : FnScope N__law_draw p__law_draw (defScope s__law_draw) := ⟨rfl, rfl, rfl, by decide +kernel, rfl, by decide +kernel, by decide +kernel⟩
def R__law_draw (ds : List PyData) (d : PyData) : Prop := ∃ m n : Int, 0 ≤ n ∧ n < m ∧ ds = [.int m] ∧ d = .int n
def C__law_draw (ds : List PyData) : Prop := ∃ m : Int, 0 < m ∧ m < 1073741824 ∧ ds = [.int m]
theorem ok__law_draw (F : Fun K "_law_draw" "_law_draw" s__law_draw f fd) (B : Blt mg) : FnOk P w K mg base CX0 1 f fd p__law_draw (spS R__law_draw C__law_draw) := by
  have nd := sc__law_draw.nd
  refine F.ok sc__law_draw (fun vs H Q E ⟨a, c, us, k', ds, e, s, ha, r, ⟨m, h0, h1, hd⟩, q⟩ => by subst e hd; rw [List.length_cons, r.length]; rfl) fun cdv A outer s H vs Q E hr ⟨a, c, us, k', ds, e, s', ha, r, ⟨m, m0, m1, hd⟩, q⟩ => ?_
  subst e hd
  obtain ⟨v, rfl, rv⟩ := r.one_inv
  rw [rv.int_inv] at *
  refine ⟨_, (pss_cons (ps_while PassesOwn.never (PW.pt (pw_and (pt_cmpR (k_ne K rfl hr.units) (pe_ix (k_ixL K rfl) (pv 0) pe_int (fun _ _ => rfl)) (pe_lst pa_nil) (nomark _)) (pw_and1 (pt_cmpR (k_eq K rfl hr.units) (pe_ix (k_ixL K rfl) (pe_ix (k_ixL K rfl) (pv 0) pe_int (fun _ _ => rfl)) (pe_un un_neg pe_int) (fun _ _ => rfl)) pe_int (nomark _))))) (pss_one (ps_expr (pe_bm0 PySem.F.plainAttrs_list PySem.F.slot_list_pop PySem.F.type_list_pop mt_pop (pe_ix (k_ixL K rfl) (pv 0) pe_int (fun _ _ => rfl))))))
      (pss_cons (ps_if (pt_cmpR (k_ne K rfl hr.units) (pe_ix (k_ixL K rfl) (pv 0) pe_int (fun _ _ => rfl)) (pe_lst pa_nil) (nomark _)) (pss_cons (ps_set (i := 2) nd rfl (by first | exact .inl rfl | exact .inr rfl) (pe_bm0 PySem.F.plainAttrs_list PySem.F.slot_list_pop PySem.F.type_list_pop mt_pop (pe_ix (k_ixL K rfl) (pv 0) pe_int (fun _ _ => rfl))))
      (pss_cons (ps_expr (pe_bm PySem.F.plainAttrs_list PySem.F.slot_list_append PySem.F.type_list_append mt_append (pe_ix (k_ixL K rfl) (pv 0) pe_int (fun _ _ => rfl)) (pa_cons (pe_op op_fdiv (pv 2) (pv 1)) pa_nil)))
      (pss_one (ps_ret (pe_op op_mod (pe_callTy call_int1 rfl B.int (by decide +kernel) (pa_cons (pv 2) pa_nil)) (pv 1)))))) pss_nil)
      (pss_cons (ps_asg (pe_op op_mod (pe_callTy call_int1 rfl B.int (by decide +kernel) (pa_cons (pe_op op_add (pe_op op_mul (pe_ix (k_ixL K rfl) (pv 0) pe_int (fun _ _ => rfl)) pe_int) pe_int) pa_nil)) pe_int) (pg_sub (pv 0) pe_int set_list))
      (pss_one (ps_ret (pe_op op_mod (pe_callTy call_int1 rfl B.int (by decide +kernel) (pa_cons (pe_op op_fdiv (pe_ix (k_ixL K rfl) (pv 0) pe_int (fun _ _ => rfl)) pe_int) pa_nil)) (pv 1))))))), ?_⟩
  have ac := ha.ac
  have fin : ∀ (H' : Hp) (n : Int), Hv a c H H' → 0 ≤ n → n < m → Q (.int n) H' := fun H' n v n0 n1 => q _ (.int n) k' H' (v.done s' ha.ka ha.kc ac).1 (v.done s' ha.ka ha.kc ac).2 (.int n) ⟨m, n, n0, n1, rfl, rfl⟩
  have md : ∀ x : Int, 0 ≤ x % m ∧ x % m < m := fun x => ⟨Int.emod_nonneg _ (by omega), Int.emod_lt_of_pos _ m0⟩
  have v0 : Hv a c H H := ⟨fun _ _ _ _ e => e, fun _ e => e, ha.has⟩
  refine ⟨fun n σ' H' => σ' = L2.start N__law_draw [.ref a, .int m] ∧ Hv a c H H' ∧ ∃ (cs : List Int) (z : Int), H' a = some (.lst [.ref c, .int z]) ∧ H' c = some (.lst (cs.map V.int)) ∧ cs.length ≤ 60 ∧ n = cs.length, ?_, fun n σ' H1 hW => ?_⟩
  · obtain ⟨cs, z, h1, h2, h3⟩ := ha.has
    exact ⟨cs.length, rfl, v0, cs, z, h1, h2, h3, rfl⟩
  obtain ⟨rfl, v1, cs, z, a1, c1, l1, rfl⟩ := hW
  -- behind the loop
  have rest : ∀ (H' : Hp), Hv a c H H' → drRest K { nx := fun _ H' => Q .non H', rt := Q } (L2.start N__law_draw [.ref a, .int m]) H' := fun H' v => by
    obtain ⟨cs, z, h1, h2, h3⟩ := v.has
    refine t_ne rfl h1 h2 fun p hp => ?_
    have v2 := v.new (o := .lst []) hp
    have e1 : upd H' p (.lst []) a = some (.lst [.ref c, .int z]) := by rw [upd_ne (ne_of_none h1 hp)]; exact h1
    have e2 : upd H' p (.lst []) c = some (.lst (cs.map V.int)) := by rw [upd_ne (ne_of_none h2 hp)]; exact h2
    cases hcs : cs.isEmpty with
    | true =>
      have v3 := v2.stir (y := (z * 48271 + 11) % 2147483647) ac
      refine ⟨.ref a, rfl, a, _, 1, .int z, rfl, rfl, .inl (.inl e1), rfl, z, 48271, rfl, rfl, .inr ⟨by decide, by decide⟩, _, 11, rfl, rfl, .inl ⟨_, rfl, _, _, rfl, rfl, (by decide : (0 : Int) < 2147483647), .ref a, rfl, a, _, 1, 1, rfl, rfl, e1, rfl, ?_⟩⟩
      exact ⟨.ref a, rfl, a, _, 1, .int ((z * 48271 + 11) % 2147483647), rfl, rfl, .inl (.inl upd_same), rfl, _, 64, rfl, rfl, ⟨by decide, by decide⟩, .inl ⟨_, rfl, .int m, rfl, _, m, rfl, rfl, m0, fin _ _ v3 (md _).1 (md _).2⟩⟩
    | false =>
      obtain ⟨x, hx⟩ : ∃ x, cs.getLast? = some x := by
        cases cs with
        | nil => cases hcs
        | cons b bs => exact ⟨_, List.getLast?_eq_getLast (List.cons_ne_nil _ _)⟩
      have hx' : (cs.map V.int)[(cs.map V.int).length - 1]? = some (.int x) := by
        rw [List.getLast?_eq_getElem?] at hx
        rw [List.length_map, List.getElem?_map, hx]; rfl
      have v3 := v2.cells (ds := cs.dropLast) ac (by rw [List.length_dropLast]; omega)
      have v4 := v3.cells (ds := cs.dropLast ++ [x / m]) ac (by rw [List.length_append, List.length_dropLast, List.length_singleton]; have : 0 < cs.length := (by cases cs with | nil => cases hx | cons _ _ => exact Nat.succ_pos _); omega)
      refine ⟨.ref a, rfl, a, _, 0, .ref c, rfl, rfl, .inl (.inl e1), rfl, .inl ⟨rfl, _, .inl (.inl e2)⟩, c, _, .int x, rfl, rfl, e2, hx', ?_⟩
      have e3 : upd (upd H' p (.lst [])) c (.lst (cs.map V.int).dropLast) a = some (.lst [.ref c, .int z]) := by rw [upd_ne ac]; exact e1
      refine ⟨.ref a, rfl, a, _, 0, .ref c, rfl, rfl, .inl (.inl e3), rfl, .inl ⟨rfl, _, .inl (.inl upd_same)⟩, .int x, rfl, .int m, rfl, x, m, rfl, rfl, ⟨m0, m1⟩, c, _, _, rfl, rfl, upd_same, ?_, ?_⟩
      · rw [List.length_dropLast, List.length_map]; exact Nat.lt_of_le_of_lt (Nat.sub_le _ _) (Nat.lt_of_le_of_lt h3 (by decide))
      · refine ⟨.int x, rfl, .inl ⟨x, rfl, .int m, rfl, x, m, rfl, rfl, m0, fin _ _ ?_ (md _).1 (md _).2⟩⟩
        rw [List.map_append, List.map_dropLast] at v4
        exact v4
  refine t_ne rfl a1 c1 fun p hp => ?_
  have v2 := v1.new (o := .lst []) hp
  have e1 : upd H1 p (.lst []) a = some (.lst [.ref c, .int z]) := by rw [upd_ne (ne_of_none a1 hp)]; exact a1
  have e2 : upd H1 p (.lst []) c = some (.lst (cs.map V.int)) := by rw [upd_ne (ne_of_none c1 hp)]; exact c1
  cases hcs : cs.isEmpty with
  | true => exact rest _ v2
  | false =>
    obtain ⟨x, hx⟩ : ∃ x, cs.getLast? = some x := by
      cases cs with
      | nil => cases hcs
      | cons b bs => exact ⟨_, List.getLast?_eq_getLast (List.cons_ne_nil _ _)⟩
    have hx' : (cs.map V.int)[(cs.map V.int).length - 1]? = some (.int x) := by
      rw [List.getLast?_eq_getElem?] at hx
      rw [List.length_map, List.getElem?_map, hx]; rfl
    refine ⟨.ref a, rfl, a, _, 0, .ref c, rfl, rfl, .inl (.inl e1), rfl, 1, rfl, c, _, -1, .int x, rfl, rfl, .inl (.inl e2), atI_neg1 (by rw [List.getLast?_map, hx]; rfl), .int x, .int 0, .int x, .int 0, rfl, rfl, _, rfl, ?_⟩
    cases hz : PyData.eqv (.int x) (.int 0) with
    | false => exact rest _ v2
    | true =>
      have l0 : 0 < cs.length := by cases cs with | nil => cases hx | cons _ _ => exact Nat.succ_pos _
      refine ⟨fun σ' H' => σ' = L2.start N__law_draw [.ref a, .int m] ∧ Hv a c H H' ∧ ∃ (ds : List Int) (z : Int), H' a = some (.lst [.ref c, .int z]) ∧ H' c = some (.lst (ds.map V.int)) ∧ ds.length ≤ 60 ∧ ds.length < cs.length, ?_, ?_⟩
      · intro σ' H' ⟨h1, h2, ds, z, h3, h4, h5, h6⟩
        exact ⟨_, h6, h1, h2, ds, z, h3, h4, h5, rfl⟩
      · refine ⟨.ref a, rfl, a, _, 0, .ref c, rfl, rfl, .inl (.inl e1), rfl, .inl ⟨rfl, _, .inl (.inl e2)⟩, c, _, .int x, rfl, rfl, e2, hx', rfl, ?_, cs.dropLast, z, ?_, ?_, ?_, ?_⟩
        · rw [← List.map_dropLast]; exact v2.cells ac (by rw [List.length_dropLast]; omega)
        · rw [upd_ne ac]; exact e1
        · rw [upd_same, List.map_dropLast]
        · rw [List.length_dropLast]; omega
        · rw [List.length_dropLast]; omega
end
end Bx
namespace Bx
open PySem PySem.Spec L2 PyProof.Rows
abbrev OI := Option Int × Option Int
abbrev eI : Option Int → PyData
  | none => .none
  | some i => .int i
abbrev eOI (r : OI) : PyData := .tuple [eI r.1, eI r.2]
abbrev eIs (ns : List Int) : PyData := .list (ns.map PyData.int)
theorem eIs_inj {a b : List Int} (h : eIs a = eIs b) : a = b := by
  have h := PyData.list.inj h
  induction a generalizing b with
  | nil => cases b with
    | nil => rfl
    | cons _ _ => cases h
  | cons x xs ih => cases b with
    | nil => cases h
    | cons y ys =>
      rw [List.map_cons, List.map_cons, List.cons.injEq] at h
      rw [PyData.int.inj h.1, ih (congrArg PyData.list h.2) h.2]
def Sm (e : Int) : Prop := -1000000000 ≤ e ∧ e ≤ 1000000000
structure IOk (r : OI) : Prop where
  lo : ∀ e, r.1 = some e → Sm e
  hi : ∀ e, r.2 = some e → Sm e
  le : ∀ l h, r.1 = some l → r.2 = some h → l ≤ h
local macro_rules | `(tactic| walk_at "ev") => `(tactic| repeat' (first
  | with_reducible exact ev_int
  | ((with_reducible apply ev_var); exact rfl)
  | with_reducible exact ev_non
  | with_reducible exact ev_bl
  | with_reducible exact ev_str
  | with_reducible exact ea_nil
  | with_reducible apply ea_cons
  | with_reducible apply et_test
  | with_reducible apply et_B
  | with_reducible exact et_yes
  | with_reducible apply ev_op
  | with_reducible exact op_ii
  | with_reducible exact op_ib
  | ((with_reducible apply op_ixT); exact rfl)
  | ((with_reducible apply op_ixL); exact rfl)
  | with_reducible exact op_isN'
  | with_reducible exact op_notN'
  | ((with_reducible show OpD (fun x y H Q => y = _ ∧ _) _ _ _); first | exact op_isN' | exact op_notN')
  | with_reducible refine' ev_tup ?_ (Nat.le_of_ble_eq_true rfl)
  | with_reducible refine' ev_lst ?_ (Nat.le_of_ble_eq_true rfl)
  | with_reducible apply ev_call
  | with_reducible apply ev_calK
  | with_reducible apply ev_un
  | with_reducible exact un_i
  | with_reducible apply et_not
  | with_reducible apply ev_not
  | ((with_reducible apply op_iC); first | assumption | exact FOk.mul (by assumption) _)
  | with_reducible apply ev_cb
  | with_reducible exact ca_lenL'
  | with_reducible exact ca_lenT'
  | with_reducible exact ca_int
  | with_reducible exact ca_abs
  | with_reducible exact ca_tuple'
  | ((with_reducible apply ev_and))
  | ((with_reducible refine fun (hh : _ = _) => ?_); first | cases hh | skip)))
local macro_rules | `(tactic| walk_at "go") => `(tactic| ((all_goals (walk_at "ev")); (all_goals (try exact rfl))))
section
variable {P : Program} {w : World} {K : PySem.W.Frag} {mg : PySem.Str → Option Value} {base : Heap} {f : Addr} {fd : FuncData}
abbrev s__law_pick : Stmt := topS 40
abbrev N__law_pick : List PySem.Str := ["_law_heap_here", "_law_some"]
abbrev p__law_pick : List PySem.Str := ["_law_heap_here", "_law_some"]
theorem sc__law_pick : FnScope N__law_pick p__law_pick (defScope s__law_pick) := ⟨rfl, rfl, rfl, by decide +kernel, rfl, by decide +kernel, by decide +kernel⟩
def R__law_pick (ds : List PyData) (d : PyData) : Prop := ∃ xs : List PyData, ds = [.list xs] ∧ d ∈ xs
def C__law_pick (ds : List PyData) : Prop := ∃ xs : List PyData, xs ≠ [] ∧ xs.length ≤ 1000 ∧ ds = [.list xs]
theorem ok__law_pick (F : Fun K "_law_pick" "_law_pick" s__law_pick f fd) (B : Blt mg) (c__law_draw : Cal P w K mg base 1 "_law_draw" p__law_draw (spS R__law_draw C__law_draw)) : FnOk P w K mg base CX0 2 f fd p__law_pick (spS R__law_pick C__law_pick) := by
  have nd := sc__law_pick.nd
  refine fun_state F sc__law_pick (fun _ h => ?_) fun cdv A outer s H E hr => ⟨_, (pss_one (ps_ret (pe_ix (k_ixL K rfl) (pv 1) (pe_calD c__law_draw hr (by decide) rfl (pa_cons (pv 0) (pa_cons (pe_callB (k_len K rfl) rfl B.len (by decide +kernel) (pa_cons (pv 1) pa_nil)) pa_nil))) (fun _ _ => rfl)))), fun a c ds hC => ?_⟩
  · obtain ⟨xs, hne, hl, rfl⟩ := h; rfl
  obtain ⟨xs, hne, hl, rfl⟩ := hC
  have l0 : 0 < xs.length := List.length_pos_iff.mpr hne
  refine' run_retS (A := True) (evs_op (evs_d (ev_var (d := .list xs) rfl) (evs_call (x := a) (c := c) rfl trivial (evsa_a (ds := [.int xs.length]) (ea_cons (ev_cb (ea_cons (a := .list xs) ?_ ea_nil) ca_lenL') ea_nil) ⟨⟨xs.length, by omega, by omega, rfl⟩, fun d hR => ?_⟩))))
  · walk_at "go"
  · obtain ⟨m, n, n0, n1, e, rfl⟩ := hR
    have e : m = xs.length := by cases e; rfl
    subst e
    obtain ⟨j, rfl⟩ := Int.eq_ofNat_of_zero_le n0
    have hj : j < xs.length := by omega
    exact ⟨xs[j], op_ixL (atI_nat (List.getElem?_eq_getElem hj)), rfl, xs, rfl, List.getElem_mem hj⟩
abbrev s__law_lowest : Stmt := topS 41
abbrev N__law_lowest : List PySem.Str := ["_law_over", "_law_under", "_law_one", "_law_other"]
abbrev p__law_lowest : List PySem.Str := ["_law_over", "_law_under"]
theorem sc__law_lowest : FnScope N__law_lowest p__law_lowest (defScope s__law_lowest) := ⟨rfl, rfl, rfl, by decide +kernel, rfl, by decide +kernel, by decide +kernel⟩
/-- e over s in lowest terms, s > 0 -/
def fr (s e : Int) : Fr := (e / (Nat.gcd e.natAbs s.natAbs : Int), s / (Nat.gcd e.natAbs s.natAbs : Int))
def R__law_lowest (ds : List PyData) (d : PyData) : Prop := ∃ o u : Int, 0 < u ∧ u ≤ 1000000000 ∧ ds = [.int o, .int u] ∧ d = eF (fr u o)
theorem r__law_lowest {o u : Int} (h0 : 0 < u) (h1 : u ≤ 1000000000) : R__law_lowest [.int o, .int u] (eF (fr u o)) := ⟨o, u, h0, h1, rfl, rfl⟩
theorem abs_nat (i : Int) : (if i < 0 then -i else i) = (i.natAbs : Int) := by split <;> omega
theorem gcd_pos {o u : Int} (h0 : 0 < u) : 0 < (Nat.gcd o.natAbs u.natAbs : Int) := by
  have := Nat.gcd_pos_of_pos_right o.natAbs (n := u.natAbs) (by omega)
  omega
theorem gcd_le {o u : Int} (h0 : 0 < u) : (Nat.gcd o.natAbs u.natAbs : Int) ≤ u := by
  have := Nat.gcd_le_right o.natAbs (n := u.natAbs) (by omega)
  omega
theorem op_mod' {i j : Int} (h : 0 < j) : OpD (rI (fun _ j => 0 < j) fun i j => .int (i % j)) (.int i) (.int j) (.int (i % j)) := op_iC h
theorem op_div' {i j : Int} (h : 0 < j ∧ j < 1073741824) : OpD (rI CDiv fun i j => .int (i / j)) (.int i) (.int j) (.int (i / j)) := op_iC h
theorem ok__law_lowest (F : Fun K "_law_lowest" "_law_lowest" s__law_lowest f fd) (B : Blt mg) : FnOk P w K mg base CX0 1 f fd p__law_lowest (spD R__law_lowest) := by
  have nd := sc__law_lowest.nd
  refine fun_pure F sc__law_lowest (fun _ _ h => ?_) fun cdv A outer s H E hr => ⟨_, (pss_cons (ps_par (i := 2) (j := 3) rfl nd rfl rfl (by decide) rfl rfl (pa_cons (pe_callB call_abs rfl B.abs (by decide +kernel) (pa_cons (pv 0) pa_nil)) (pa_cons (pe_callB call_abs rfl B.abs (by decide +kernel) (pa_cons (pv 1) pa_nil)) pa_nil)) (by rfl))
      (pss_cons (ps_while PassesOwn.never (pt_cmpR op_gt (pv 3) pe_int (nomark _)) (pss_one (ps_par (i := 2) (j := 3) rfl nd rfl rfl (by decide) rfl rfl (pa_cons (pv 3) (pa_cons (pe_op op_mod (pe_callTy call_int1 rfl B.int (by decide +kernel) (pa_cons (pv 2) pa_nil)) (pv 3)) pa_nil)) (by rfl))))
      (pss_cons (ps_set (i := 2) nd rfl (by first | exact .inl rfl | exact .inr rfl) (pe_ifExp (pt_cmpR op_gt (pv 1) pe_int (nomark _)) (pv 2) (pe_un un_neg (pv 2))))
      (pss_one (ps_ret (pe_tup (pa_cons (pe_op op_fdiv (pv 0) (pv 2)) (pa_cons (pe_op op_fdiv (pv 1) (pv 2)) pa_nil)))))))), fun ds d hR => ?_⟩
  · obtain ⟨o, u, u0, u1, rfl, rfl⟩ := h; rfl
  obtain ⟨o, u, u0, u1, rfl, rfl⟩ := hR
  have g0 := gcd_pos (o := o) u0
  have g1 := gcd_le (o := o) u0
  refine' run_seq (run_par (A := False) (evsa_a (ea_cons (ev_is (ev_cb (ea_cons (ev_var (d := .int o) rfl) ea_nil) ca_abs) (congrArg PyData.int (abs_nat o))) (ea_cons (ev_is (ev_cb (ea_cons (ev_var (d := .int u) rfl) ea_nil) ca_abs) (congrArg PyData.int (abs_nat u))) ea_nil)) ⟨_, _, rfl, ?_⟩))
  refine' run_seq (run_while (fun m Γ => ∃ x y : Nat, m = y ∧ Γ = [.dat (.int o), .dat (.int u), .dat (.int x), .dat (.int y)] ∧ Nat.gcd x y = Nat.gcd o.natAbs u.natAbs) u.natAbs ⟨o.natAbs, u.natAbs, rfl, rfl, rfl⟩ fun m Γi hW => ?_)
  obtain ⟨x, y, rfl, rfl, hg⟩ := hW
  refine ⟨_, et_test (ev_op (ev_var (d := .int (m : Nat)) rfl) ev_int op_ib), fun hb => ?_, fun hb => ?_⟩
  · have hb := of_decide_eq_true hb
    refine' run_par (A := False) (evsa_a (ea_cons (ev_var rfl) (ea_cons (ev_op (ev_cb (ea_cons (ev_var (d := .int (x : Nat)) rfl) ea_nil) ca_int) (ev_var (d := .int (m : Nat)) rfl) (op_mod' (by omega))) ea_nil)) ⟨_, _, rfl, x % m, Nat.mod_lt _ (by omega), m, x % m, rfl, rfl, ?_⟩)
    rw [Nat.gcd_comm, ← Nat.gcd_rec, Nat.gcd_comm]
    exact hg
  · have hb := of_decide_eq_false hb
    have hm : m = 0 := by omega
    subst hm
    rw [Nat.gcd_zero_right] at hg
    subst hg
    refine' run_seq (run_set (ev_if1 (et_test (ev_is (ev_op (ev_var (d := .int u) rfl) ev_int op_ib) (congrArg PyData.bool (decide_eq_true u0)))) rfl (ev_var rfl)) ?_)
    refine' run_ret (ev_tup (ea_cons (ev_op (ev_var (d := .int o) rfl) ?_ (op_div' ⟨g0, by omega⟩)) (ea_cons (ev_op (ev_var (d := .int u) rfl) ?_ (op_div' ⟨g0, by omega⟩)) ea_nil)) (Nat.le_of_ble_eq_true rfl)) ?_
    walk_at "go"
abbrev s__law_end : Stmt := topS 42
abbrev N__law_end : List PySem.Str := ["_law_heap_here", "_law_known", "_law_shape"]
abbrev p__law_end : List PySem.Str := ["_law_heap_here", "_law_known"]
theorem sc__law_end : FnScope N__law_end p__law_end (defScope s__law_end) := ⟨rfl, rfl, rfl, by decide +kernel, rfl, by decide +kernel, by decide +kernel⟩
def R__law_end (ds : List PyData) (d : PyData) : Prop := ∃ (ks : List Int) (e : Int), ds = [eIs ks] ∧ d = .int e ∧ (e ∈ ks ∨ Sm e)
def C__law_end (ds : List PyData) : Prop := ∃ ks : List Int, ks.length ≤ 60 ∧ ds = [eIs ks]
theorem ok__law_end (F : Fun K "_law_end" "_law_end" s__law_end f fd) (B : Blt mg) (c__law_draw : Cal P w K mg base 1 "_law_draw" p__law_draw (spS R__law_draw C__law_draw)) (c__law_pick : Cal P w K mg base 2 "_law_pick" p__law_pick (spS R__law_pick C__law_pick)) : FnOk P w K mg base CX0 3 f fd p__law_end (spS R__law_end C__law_end) := by
  have nd := sc__law_end.nd
  refine fun_state F sc__law_end (fun _ h => ?_) fun cdv A outer s H E hr => ⟨_, (pss_cons (ps_set (i := 2) nd rfl (by first | exact .inl rfl | exact .inr rfl) (pe_calD c__law_draw hr (by decide) rfl (pa_cons (pv 0) (pa_cons pe_int pa_nil))))
      (pss_cons (ps_if (PW.pt (pw_and (pt_cmpR op_lt (pv 2) pe_int (nomark _)) (pw_and1 (pt_cmpR (k_ne K rfl hr.units) (pv 1) (pe_lst pa_nil) (nomark _))))) (pss_one (ps_ret (pe_calD c__law_pick hr (by decide) rfl (pa_cons (pv 0) (pa_cons (pv 1) pa_nil))))) pss_nil)
      (pss_one (ps_ret (pe_ifExp (pt_cmpR op_lt (pv 2) pe_int (nomark _)) (pe_op op_mul pe_int (pe_op op_sub (pe_calD c__law_draw hr (by decide) rfl (pa_cons (pv 0) (pa_cons pe_int pa_nil))) pe_int)) (pe_op op_mul pe_int (pe_op op_sub (pe_calD c__law_draw hr (by decide) rfl (pa_cons (pv 0) (pa_cons (pe_op op_mul pe_int (pe_op op_pow pe_int pe_int)) pa_nil))) (pe_op op_mul pe_int (pe_op op_pow pe_int pe_int))))))))), fun a c ds hC => ?_⟩
  · obtain ⟨ks, hk, rfl⟩ := h; rfl
  obtain ⟨ks, hk, rfl⟩ := hC
  have hk1 : (ks.map PyData.int).length ≤ 1000 := by rw [List.length_map]; omega
  refine' run_seq (run_setS (A := True) (evs_call (x := a) (c := c) rfl trivial (evsa_a (ds := [.int 5]) ?_ ⟨⟨5, by decide, by decide, rfl⟩, fun d hR => ?_⟩)))
  · walk_at "go"
  obtain ⟨m, z, z0, z1, e, rfl⟩ := hR
  have e : m = 5 := by cases e; rfl
  subst e
  refine' run_seq (run_if (et_and (et_test (ev_op ?_ ?_ op_ib)) (fun _ => et_test (ev_is (ev_op (a := eIs ks) (b := .list []) ?_ (ev_lst ea_nil (Nat.zero_le _)) (op_ned ((shp_ints ks).ok (by decide)) rfl)) (congrArg (fun b => PyData.bool (!b)) (eqv_nil ks))))) (fun hb => ?_) (fun hb => run_next ?_))
  · exact ev_var (d := .int z) rfl
  · exact ev_int
  · walk_at "go"
  · have hne : ks ≠ [] := fun e => by subst e; simp at hb
    refine' run_retS (A := True) (evs_call (x := a) (c := c) rfl trivial (evsa_a (ds := [eIs ks]) ?_ ⟨⟨ks.map PyData.int, fun e => hne (List.map_eq_nil_iff.mp e), hk1, rfl⟩, fun d hR => ?_⟩))
    · walk_at "go"
    · obtain ⟨xs, e, hd⟩ := hR
      cases e
      obtain ⟨i, hi, rfl⟩ := List.mem_map.mp hd
      exact ⟨rfl, ks, i, rfl, rfl, .inl hi⟩
  · refine' run_retS (A := True) (evs_if (et_test (ev_op (ev_var (d := .int z) rfl) ev_int op_ib)) (fun _ => ?_) (fun _ => ?_))
    · refine' evs_op (evs_d ev_int (evs_op (evs_call (x := a) (c := c) rfl trivial (evsa_a (ds := [.int 13]) ?_ ⟨⟨13, by decide, by decide, rfl⟩, fun d hR => ?_⟩))))
      · walk_at "go"
      · obtain ⟨m, y, y0, y1, e, rfl⟩ := hR
        have e : m = 13 := by cases e; rfl
        subst e
        exact evs_d ev_int ⟨_, op_ii, _, op_iC (.inl ⟨by decide, by decide⟩), rfl, ks, _, rfl, rfl, .inr ⟨by omega, by omega⟩⟩
    · refine' evs_op (evs_d ev_int (evs_op (evs_call (x := a) (c := c) rfl trivial (evsa_a (ds := [.int 500000000]) ?_ ⟨⟨500000000, by decide, by decide, rfl⟩, fun d hR => ?_⟩))))
      · exact ea_cons (ev_is (ev_op ev_int (ev_op ev_int ev_int (op_iC ⟨by decide, by decide, by decide⟩)) (op_iC (.inl ⟨by decide, by decide⟩))) rfl) ea_nil
      · obtain ⟨m, y, y0, y1, e, rfl⟩ := hR
        have e : m = 500000000 := by cases e; rfl
        subst e
        exact evs_d (ev_is (d := .int 250000000) (ev_op ev_int (ev_op ev_int ev_int (op_iC ⟨by decide, by decide, by decide⟩)) (op_iC (.inl ⟨by decide, by decide⟩))) rfl) ⟨_, op_ii, _, op_iC (.inl ⟨by decide, by decide⟩), rfl, ks, _, rfl, rfl, .inr ⟨by omega, by omega⟩⟩
abbrev s__law_range : Stmt := topS 43
abbrev N__law_range : List PySem.Str := ["_law_heap_here", "_law_known", "_law_one", "_law_other", "_law_low", "_law_high"]
abbrev p__law_range : List PySem.Str := ["_law_heap_here", "_law_known"]
theorem sc__law_range : FnScope N__law_range p__law_range (defScope s__law_range) := ⟨rfl, rfl, rfl, by decide +kernel, rfl, by decide +kernel, by decide +kernel⟩
def R__law_range (ds : List PyData) (d : PyData) : Prop := ∃ r : OI, d = eOI r ∧ IOk r
def C__law_range (ds : List PyData) : Prop := ∃ ks : List Int, ks.length ≤ 60 ∧ (∀ k ∈ ks, Sm k) ∧ ds = [eIs ks]
theorem ok__law_range (F : Fun K "_law_range" "_law_range" s__law_range f fd) (B : Blt mg) (c__law_end : Cal P w K mg base 3 "_law_end" p__law_end (spS R__law_end C__law_end)) (c__law_pick : Cal P w K mg base 2 "_law_pick" p__law_pick (spS R__law_pick C__law_pick)) : FnOk P w K mg base CX0 4 f fd p__law_range (spS R__law_range C__law_range) := by
  have nd := sc__law_range.nd
  refine fun_state F sc__law_range (fun _ h => ?_) fun cdv A outer s H E hr => ⟨_, (pss_cons (ps_par (i := 2) (j := 3) rfl nd rfl rfl (by decide) rfl rfl (pa_cons (pe_calD c__law_end hr (by decide) rfl (pa_cons (pv 0) (pa_cons (pv 1) pa_nil))) (pa_cons (pe_calD c__law_end hr (by decide) rfl (pa_cons (pv 0) (pa_cons (pv 1) pa_nil))) pa_nil)) (by rfl))
      (pss_cons (ps_par (i := 4) (j := 5) rfl nd rfl rfl (by decide) rfl rfl (pa_cons (pe_callB (call_min2 rfl) rfl B.min (by decide +kernel) (pa_cons (pv 2) (pa_cons (pv 3) pa_nil))) (pa_cons (pe_callB (call_max2 rfl) rfl B.max (by decide +kernel) (pa_cons (pv 2) (pa_cons (pv 3) pa_nil))) pa_nil)) (by rfl))
      (pss_one (ps_ret (pe_calD c__law_pick hr (by decide) rfl (pa_cons (pv 0) (pa_cons (pe_lst (pa_cons (pe_tup (pa_cons pe_non (pa_cons pe_non pa_nil))) (pa_cons (pe_tup (pa_cons (pv 4) (pa_cons pe_non pa_nil))) (pa_cons (pe_tup (pa_cons pe_non (pa_cons (pv 5) pa_nil))) (pa_cons (pe_tup (pa_cons (pv 4) (pa_cons (pv 5) pa_nil))) (pa_cons (pe_tup (pa_cons (pv 4) (pa_cons (pv 5) pa_nil))) (pa_cons (pe_tup (pa_cons (pv 4) (pa_cons (pv 4) pa_nil))) pa_nil))))))) pa_nil))))))), fun a c ds hC => ?_⟩
  · obtain ⟨ks, hk, hs, rfl⟩ := h; rfl
  obtain ⟨ks, hk, hs, rfl⟩ := hC
  have sm : ∀ e, (e ∈ ks ∨ Sm e) → Sm e := fun e h => h.elim (hs e) id
  refine' run_seq (run_par (A := True) (esa_cons (evs_call (x := a) (c := c) rfl trivial (evsa_a (ds := [eIs ks]) ?_ ⟨⟨ks, hk, rfl⟩, fun d hR => ?_⟩))))
  · walk_at "go"
  obtain ⟨ks', i, e, rfl, hi⟩ := hR
  have e := eIs_inj (List.cons.inj e).1
  subst e
  have hi := sm i hi
  refine' esa_cons (evs_call (x := a) (c := c) rfl trivial (evsa_a (ds := [eIs ks]) ?_ ⟨⟨ks, hk, rfl⟩, fun d hR => ?_⟩))
  · walk_at "go"
  obtain ⟨ks', j, e, rfl, hj⟩ := hR
  have e := eIs_inj (List.cons.inj e).1
  subst e
  have hj := sm j hj
  refine esa_nil ⟨_, _, rfl, ?_⟩
  refine' run_seq (run_par (A := False) (evsa_a (ea_cons (ev_cb (ea_cons (ev_var (d := .int i) rfl) (ea_cons (ev_var (d := .int j) rfl) ea_nil)) ca_min2) (ea_cons (ev_cb (ea_cons (ev_var (d := .int i) rfl) (ea_cons (ev_var (d := .int j) rfl) ea_nil)) ca_max2) ea_nil)) ⟨_, _, rfl, ?_⟩))
  obtain ⟨lo, elo⟩ : ∃ lo, lo = if j < i then j else i := ⟨_, rfl⟩
  obtain ⟨hi', ehi⟩ : ∃ hi, hi = if j > i then j else i := ⟨_, rfl⟩
  rw [← elo, ← ehi]
  have slo : Sm lo := by rw [elo]; split <;> assumption
  have shi : Sm hi' := by rw [ehi]; split <;> assumption
  have le : lo ≤ hi' := by rw [elo, ehi]; split <;> split <;> omega
  let rs : List OI := [(none, none), (some lo, none), (none, some hi'), (some lo, some hi'), (some lo, some hi'), (some lo, some lo)]
  have hrs : ∀ r ∈ rs, IOk r := by
    intro r hr
    have so : ∀ {x y : Int}, Sm x → some x = some y → Sm y := fun h e => Option.some.inj e ▸ h
    simp only [rs, List.mem_cons, List.not_mem_nil, or_false] at hr
    rcases hr with rfl | rfl | rfl | rfl | rfl | rfl
    · exact ⟨fun _ z => (nomatch z), fun _ z => (nomatch z), fun _ _ z => (nomatch z)⟩
    · exact ⟨fun _ => so slo, fun _ z => (nomatch z), fun _ _ _ z => (nomatch z)⟩
    · exact ⟨fun _ z => (nomatch z), fun _ => so shi, fun _ _ z => (nomatch z)⟩
    · exact ⟨fun _ => so slo, fun _ => so shi, fun _ _ e1 e2 => by cases e1; cases e2; exact le⟩
    · exact ⟨fun _ => so slo, fun _ => so shi, fun _ _ e1 e2 => by cases e1; cases e2; exact le⟩
    · exact ⟨fun _ => so slo, fun _ => so slo, fun _ _ e1 e2 => by cases e1; cases e2; exact Int.le_refl _⟩
  refine' run_retS (A := True) (evs_call (x := a) (c := c) rfl trivial (evsa_a (ds := [.list (rs.map eOI)]) ?_ ⟨⟨rs.map eOI, fun e => (nomatch e), Nat.le_of_ble_eq_true rfl, rfl⟩, fun d hR => ?_⟩))
  · refine' ea_cons (ev_lst ?_ (Nat.le_of_ble_eq_true rfl)) ea_nil
    have ep : ∀ {t1 t2 : TE} {Γ : Ge} {o1 o2 : Option Int}, EvD t1 Γ (eI o1) → EvD t2 Γ (eI o2) → EvD (tTup (tCons t1 (tCons t2 tNil))) Γ (eOI (o1, o2)) := fun h1 h2 => ev_tup (ea_cons h1 (ea_cons h2 ea_nil)) (Nat.le_of_ble_eq_true rfl)
    exact ea_cons (ep ev_non ev_non) (ea_cons (ep (ev_var rfl) ev_non) (ea_cons (ep ev_non (ev_var rfl)) (ea_cons (ep (ev_var rfl) (ev_var rfl)) (ea_cons (ep (ev_var rfl) (ev_var rfl)) (ea_cons (ep (ev_var rfl) (ev_var rfl)) ea_nil)))))
  · obtain ⟨xs, e, hd⟩ := hR
    have e : xs = rs.map eOI := by cases e; rfl
    subst e
    obtain ⟨r, hr, rfl⟩ := List.mem_map.mp hd
    exact ⟨rfl, r, rfl, hrs r hr⟩
end
end Bx
namespace Bx
open PySem PySem.Spec L2 PyProof.Rows
def hasI (r : OI) (v : Int) : Bool := (match r.1 with | none => true | some l => decide (l ≤ v)) && (match r.2 with | none => true | some h => decide (v ≤ h))
abbrev frO (s : Int) (o : Option Int) : Option Fr := o.map (fr s)
abbrev frR (s : Int) (r : OI) : Rf := (frO s r.1, frO s r.2)
abbrev eFs (fs : List Fr) : PyData := .list (fs.map eF)
abbrev eT (t : List Int × List Fr) : PyData := .tuple [eIs t.1, eFs t.2]
def SOk (s : Int) : Prop := 0 < s ∧ s ≤ 1000000000
theorem od_neI {K : PySem.W.Frag} {i j : Int} : OpD (rNeD K) (.int i) (.int j) (.bool (!decide (i = j))) := by
  have h := op_ned (K := K) (a := .int i) (b := .int j) rfl rfl
  rw [eqv_int] at h
  exact h
theorem od_eqI {K : PySem.W.Frag} {i j : Int} : OpD (rEqD K) (.int i) (.int j) (.bool (decide (i = j))) := by
  have h := op_eqd (K := K) (a := .int i) (b := .int j) rfl rfl
  rw [eqv_int] at h
  exact h
theorem od_neIs {K : PySem.W.Frag} {a b : List Int} : OpD (rNeD K) (eIs a) (eIs b) (.bool (!decide (a = b))) := by
  have h := op_ned (K := K) ((shp_ints a).ok (by decide)) ((shp_ints b).ok (by decide))
  rw [eqv_list eqv_int] at h
  exact h
theorem isNone_I (o : Option Int) : isNoneD (eI o) = o.isNone := by cases o <;> rfl
theorem od_inFs {K : PySem.W.Frag} {a : Fr} {ends : List Fr} : OpD (rInD K) (eF a) (eFs ends) (.bool (decide (a ∈ ends))) := by
  have h := op_inD' (K := K) (a := eF a) (ds := ends.map eF) ((shp_F a).ok (by decide)) ((Shp.list (e := eF) (n := 1) (xs := ends) fun x _ => shp_F x).ok (by decide))
  rw [any_eqF] at h
  exact h
local macro_rules | `(tactic| walk_at "ev") => `(tactic| repeat' (first
  | with_reducible exact ev_int
  | ((with_reducible apply ev_var); exact rfl)
  | with_reducible exact ev_non
  | with_reducible exact ev_bl
  | with_reducible exact ev_str
  | with_reducible exact ea_nil
  | with_reducible apply ea_cons
  | with_reducible apply et_test
  | with_reducible apply et_B
  | with_reducible exact et_yes
  | with_reducible apply ev_op
  | with_reducible exact op_ii
  | with_reducible exact op_ib
  | ((with_reducible apply op_ixT); exact rfl)
  | ((with_reducible apply op_ixL); exact rfl)
  | with_reducible exact op_isN'
  | with_reducible exact op_notN'
  | ((with_reducible show OpD (fun x y H Q => y = _ ∧ _) _ _ _); first | exact op_isN' | exact op_notN')
  | with_reducible refine' ev_tup ?_ (Nat.le_of_ble_eq_true rfl)
  | with_reducible refine' ev_lst ?_ (Nat.le_of_ble_eq_true rfl)
  | with_reducible apply ev_call
  | with_reducible apply ev_calK
  | with_reducible apply ev_un
  | with_reducible exact un_i
  | with_reducible apply et_not
  | with_reducible apply ev_not
  | ((with_reducible apply op_iC); first | assumption | exact FOk.mul (by assumption) _)
  | with_reducible apply ev_cb
  | with_reducible exact ca_lenL'
  | with_reducible exact ca_lenT'
  | with_reducible exact ca_int
  | with_reducible exact ca_abs
  | with_reducible exact ca_tuple'
  | ((with_reducible apply ev_and))
  | ((with_reducible refine fun (hh : _ = _) => ?_); first | cases hh | skip)))
local macro_rules | `(tactic| walk_at "go") => `(tactic| ((all_goals (walk_at "ev")); (all_goals (try exact rfl))))
section
variable {P : Program} {w : World} {K : PySem.W.Frag} {mg : PySem.Str → Option Value} {base : Heap} {f : Addr} {fd : FuncData}
abbrev s__law_has : Stmt := topS 44
abbrev N__law_has : List PySem.Str := ["_law_ends", "_law_value"]
abbrev p__law_has : List PySem.Str := ["_law_ends", "_law_value"]
theorem sc__law_has : FnScope N__law_has p__law_has (defScope s__law_has) := ⟨rfl, rfl, rfl, by decide +kernel, rfl, by decide +kernel, by decide +kernel⟩
def R__law_has (ds : List PyData) (d : PyData) : Prop := ∃ (r : OI) (v : Int), ds = [eOI r, .int v] ∧ d = .bool (hasI r v)
theorem r__law_has {r : OI} {v : Int} : R__law_has [eOI r, .int v] (.bool (hasI r v)) := ⟨r, v, rfl, rfl⟩
theorem ok__law_has (F : Fun K "_law_has" "_law_has" s__law_has f fd) (B : Blt mg) : FnOk P w K mg base CX0 1 f fd p__law_has (spD R__law_has) := by
  have nd := sc__law_has.nd
  refine fun_pure F sc__law_has (fun _ _ h => ?_) fun cdv A outer s H E hr => ⟨_, (pss_one (ps_ret (pe_and (pe_or (pe_cmpR op_isN (pe_ix (k_ixT K rfl) (pv 0) pe_int (fun _ _ => rfl)) pe_non (nomark _)) (pe_one (pe_cmpR op_le (pe_ix (k_ixT K rfl) (pv 0) pe_int (fun _ _ => rfl)) (pv 1) (nomark _)))) (pe_one (pe_or (pe_cmpR op_isN (pe_ix (k_ixT K rfl) (pv 0) pe_int (fun _ _ => rfl)) pe_non (nomark _)) (pe_one (pe_cmpR op_le (pv 1) (pe_ix (k_ixT K rfl) (pv 0) pe_int (fun _ _ => rfl)) (nomark _)))))))), fun ds d hR => ?_⟩
  · obtain ⟨r, v, rfl, rfl⟩ := h; rfl
  obtain ⟨r, v, rfl, rfl⟩ := hR
  obtain ⟨lo, hi⟩ := r
  refine' run_ret (ev_and (x := match lo with | none => true | some l => decide (l ≤ v)) ?_ fun _ => (?_ : EvD _ _ (.bool (match hi with | none => true | some h => decide (v ≤ h))))) ?_
  · cases lo with
    | none => refine' ev_or1 ?_; walk_at "go"
    | some l => refine' ev_or0 ?_ ?_; walk_at "go"
  · cases hi with
    | none => refine' ev_or1 ?_; walk_at "go"
    | some l => refine' ev_or0 ?_ ?_; walk_at "go"
  · rfl
abbrev s__law_all_in : Stmt := topS 51
abbrev N__law_all_in : List PySem.Str := ["_law_ends", "_law_tests_here", "_law_value"]
abbrev p__law_all_in : List PySem.Str := ["_law_ends", "_law_tests_here"]
theorem sc__law_all_in : FnScope N__law_all_in p__law_all_in (defScope s__law_all_in) := ⟨rfl, rfl, rfl, by decide +kernel, rfl, by decide +kernel, by decide +kernel⟩
def R__law_all_in (ds : List PyData) (d : PyData) : Prop := ∃ (r : OI) (t : List Int × List Fr), t.1.length ≤ 100 ∧ ds = [eOI r, eT t] ∧ d = eIs (t.1.filter (hasI r))
theorem r__law_all_in {r : OI} {t : List Int × List Fr} (h : t.1.length ≤ 100) : R__law_all_in [eOI r, eT t] (eIs (t.1.filter (hasI r))) := ⟨r, t, h, rfl, rfl⟩
theorem ok__law_all_in (F : Fun K "_law_all_in" "_law_all_in" s__law_all_in f fd) (B : Blt mg) (c__law_has : Cal P w K mg base 1 "_law_has" p__law_has (spD R__law_has)) : FnOk P w K mg base CX0 2 f fd p__law_all_in (spD R__law_all_in) := by
  have nd := sc__law_all_in.nd
  refine fun_pure F sc__law_all_in (fun _ _ h => ?_) fun cdv A outer s H E hr => ⟨_, (pss_one (ps_ret (pe_lc (own := [("_law_value", 2)]) rfl nd (ki_list K rfl (pe_ix (k_ixT K rfl) (pv 1) pe_int (fun _ _ => rfl))) (blkOk_by (by kernel_rfl)) (fun _ _ _ _ _ => (pg_name (i := 2) nd rfl (by first | exact .inl rfl | exact .inr rfl))) (fun _ _ _ _ _ => (pts_one (pt_val (pe_calD c__law_has hr (by decide) rfl (pa_cons (pv 0) (pa_cons (pv 2) pa_nil)))))) (fun _ _ _ _ _ => (pv 2))))), fun ds d hR => ?_⟩
  · obtain ⟨r, t, ht, rfl, rfl⟩ := h; rfl
  obtain ⟨r, t, ht, rfl, rfl⟩ := hR
  refine' run_ret (el_d (el_lc t.1 PyData.int (hasI r) PyData.int (ei_list (ev_op (a := eT t) (b := .int 0) ?_ ?_ (op_ixT rfl))) (by omega) rfl fun v hv => ⟨_, _, eg_name, rfl, et_test (ev_call ?_ (r__law_has (r := r) (v := v))), fun _ => ?_⟩)) ?_
  walk_at "go"
abbrev s__law_shown : Stmt := topS 45
abbrev N__law_shown : List PySem.Str := ["_law_own", "_law_scale", "_law_ends", "_law_end_here"]
abbrev p__law_shown : List PySem.Str := ["_law_own", "_law_scale"]
theorem sc__law_shown : FnScope N__law_shown p__law_shown (defScope s__law_shown) := ⟨rfl, rfl, rfl, by decide +kernel, rfl, by decide +kernel, by decide +kernel⟩
def R__law_shown (ds : List PyData) (d : PyData) : Prop := ∃ (rs : List OI) (s : Int), rs.length ≤ 100 ∧ SOk s ∧ ds = [.list (rs.map eOI), .int s] ∧ d = eB (rs.map (frR s))
theorem r__law_shown {rs : List OI} {s : Int} (h : rs.length ≤ 100) (hs : SOk s) : R__law_shown [.list (rs.map eOI), .int s] (eB (rs.map (frR s))) := ⟨rs, s, h, hs, rfl, rfl⟩
theorem ok__law_shown (F : Fun K "_law_shown" "_law_shown" s__law_shown f fd) (B : Blt mg) (c__law_lowest : Cal P w K mg base 1 "_law_lowest" p__law_lowest (spD R__law_lowest)) : FnOk P w K mg base CX0 2 f fd p__law_shown (spD R__law_shown) := by
  have nd := sc__law_shown.nd
  refine fun_pure F sc__law_shown (fun _ _ h => ?_) fun cdv A outer s H E hr => ⟨_, (pss_one (ps_ret (pe_callTy (k_tuple K rfl) rfl B.tuple (by decide +kernel) (pa_cons (pe_lc (own := [("_law_ends", 2)]) rfl nd (ki_list K rfl (pv 0)) (blkOk_by (by kernel_rfl)) (fun _ _ _ _ _ => (pg_name (i := 2) nd rfl (by first | exact .inl rfl | exact .inr rfl))) (fun _ _ _ _ _ => pts_nil) (fun _ _ _ _ _ => (pe_callTy (k_tuple K rfl) rfl B.tuple (by decide +kernel) (pa_cons (pe_lc (own := [("_law_end_here", 3)]) rfl nd (ki_tup K rfl (pv 2)) (blkOk_by (by kernel_rfl)) (fun _ _ _ _ _ => (pg_name (i := 3) nd rfl (by first | exact .inl rfl | exact .inr rfl))) (fun _ _ _ _ _ => pts_nil) (fun _ _ _ _ _ => (pe_ifExp (pt_cmpR op_isN (pv 3) pe_non (nomark _)) pe_non (pe_calD c__law_lowest hr (by decide) rfl (pa_cons (pv 3) (pa_cons (pv 1) pa_nil)))))) pa_nil)))) pa_nil)))), fun ds d hR => ?_⟩
  · obtain ⟨rs, s, hl, hs, rfl, rfl⟩ := h; rfl
  obtain ⟨rs, s, hl, hs, rfl, rfl⟩ := hR
  refine' run_ret (ev_cb (ea_cons (el_d (el_map rs eOI (fun r => eR (frR s r)) (ei_list ?_) (by omega) rfl fun r hr => ⟨_, _, eg_name, rfl, ev_cb (ea_cons (el_d (el_map [r.1, r.2] eI (fun o => eO (frO s o)) (ei_tup (ds := [eI r.1, eI r.2]) ?_) (Nat.le_of_ble_eq_true rfl) rfl fun o ho => ⟨_, _, eg_name, rfl, ?_⟩)) ea_nil) ca_tuple'⟩)) ea_nil) ca_tuple') ?_
  · walk_at "go"
  · walk_at "go"
  · refine' ev_if (c := o.isNone) (et_test (ev_is (ev_op (a := eI o) ?_ ?_ op_isN') (congrArg PyData.bool (isNone_I o)))) (fun e => ?_) (fun e => ?_)
    · walk_at "go"
    · walk_at "go"
    · cases o with
      | none => exact ev_non
      | some _ => cases e
    · cases o with
      | none => cases e
      | some i => refine' ev_call ?_ (r__law_lowest hs.1 hs.2); walk_at "go"
  · show PyData.tuple _ = .tuple ((rs.map (frR s)).map eR)
    rw [List.map_map]
    rfl
abbrev s__law_fractions : Stmt := topS 49
abbrev N__law_fractions : List PySem.Str := ["_law_some", "_law_scale", "_law_value"]
abbrev p__law_fractions : List PySem.Str := ["_law_some", "_law_scale"]
theorem sc__law_fractions : FnScope N__law_fractions p__law_fractions (defScope s__law_fractions) := ⟨rfl, rfl, rfl, by decide +kernel, rfl, by decide +kernel, by decide +kernel⟩
def R__law_fractions (ds : List PyData) (d : PyData) : Prop := ∃ (ks : List Int) (s : Int), ks.length ≤ 100 ∧ SOk s ∧ ds = [eIs ks, .int s] ∧ d = eFs (ks.map (fr s))
theorem r__law_fractions {ks : List Int} {s : Int} (h : ks.length ≤ 100) (hs : SOk s) : R__law_fractions [eIs ks, .int s] (eFs (ks.map (fr s))) := ⟨ks, s, h, hs, rfl, rfl⟩
theorem ok__law_fractions (F : Fun K "_law_fractions" "_law_fractions" s__law_fractions f fd) (B : Blt mg) (c__law_lowest : Cal P w K mg base 1 "_law_lowest" p__law_lowest (spD R__law_lowest)) : FnOk P w K mg base CX0 2 f fd p__law_fractions (spD R__law_fractions) := by
  have nd := sc__law_fractions.nd
  refine fun_pure F sc__law_fractions (fun _ _ h => ?_) fun cdv A outer s H E hr => ⟨_, (pss_one (ps_ret (pe_lc (own := [("_law_value", 2)]) rfl nd (ki_list K rfl (pv 0)) (blkOk_by (by kernel_rfl)) (fun _ _ _ _ _ => (pg_name (i := 2) nd rfl (by first | exact .inl rfl | exact .inr rfl))) (fun _ _ _ _ _ => pts_nil) (fun _ _ _ _ _ => (pe_calD c__law_lowest hr (by decide) rfl (pa_cons (pv 2) (pa_cons (pv 1) pa_nil))))))), fun ds d hR => ?_⟩
  · obtain ⟨ks, s, hl, hs, rfl, rfl⟩ := h; rfl
  obtain ⟨ks, s, hl, hs, rfl, rfl⟩ := hR
  refine' run_ret (el_d (el_map ks PyData.int (fun v => eF (fr s v)) (ei_list ?_) (by omega) rfl fun v hv => ⟨_, _, eg_name, rfl, ev_call ?_ (r__law_lowest hs.1 hs.2)⟩)) ?_
  · walk_at "go"
  · walk_at "go"
  · show PyData.list _ = .list ((ks.map (fr s)).map eF)
    rw [List.map_map]
    rfl
abbrev s__law_tests : Stmt := topS 46
abbrev N__law_tests : List PySem.Str := ["_law_some", "_law_found", "_law_one"]
abbrev p__law_tests : List PySem.Str := ["_law_some"]
theorem sc__law_tests : FnScope N__law_tests p__law_tests (defScope s__law_tests) := ⟨rfl, rfl, rfl, by decide +kernel, rfl, by decide +kernel, by decide +kernel⟩
/-- an ascending list of what a list has -/
def ins (x : Int) : List Int → List Int
  | [] => [x]
  | y :: ys => if x < y then x :: y :: ys else if x = y then y :: ys else y :: ins x ys
def srt (xs : List Int) : List Int := xs.foldr ins []
theorem mem_ins {x z : Int} : ∀ ys : List Int, z ∈ ins x ys ↔ z = x ∨ z ∈ ys
  | [] => by simp [ins]
  | y :: ys => by
    unfold ins
    split
    · simp
    · split
      · rename_i h; subst h; simp
      · rw [List.mem_cons, mem_ins ys, List.mem_cons]; constructor <;> (intro h; rcases h with h | h | h <;> simp [h])
theorem asc_ins {x : Int} : ∀ ys : List Int, ys.Pairwise (· < ·) → (ins x ys).Pairwise (· < ·)
  | [], _ => by simp [ins]
  | y :: ys, h => by
    have h' := List.pairwise_cons.mp h
    unfold ins
    split
    · rename_i hx
      exact List.pairwise_cons.mpr ⟨fun z hz => (List.mem_cons.mp hz).elim (fun e => e ▸ hx) fun m => Int.lt_trans hx (h'.1 z m), h⟩
    · split
      · exact h
      · rename_i h1 h2
        refine List.pairwise_cons.mpr ⟨fun z hz => ?_, asc_ins ys h'.2⟩
        rcases (mem_ins ys).mp hz with rfl | m
        · omega
        · exact h'.1 z m
theorem mem_srt {z : Int} : ∀ xs : List Int, z ∈ srt xs ↔ z ∈ xs
  | [] => Iff.rfl
  | x :: xs => by show z ∈ ins x (srt xs) ↔ _; rw [mem_ins, mem_srt xs, List.mem_cons]
theorem asc_srt : ∀ xs : List Int, (srt xs).Pairwise (· < ·)
  | [] => .nil
  | x :: xs => asc_ins _ (asc_srt xs)
theorem len_ins {x : Int} : ∀ ys : List Int, (ins x ys).length ≤ ys.length + 1
  | [] => Nat.le_refl _
  | y :: ys => by
    unfold ins
    split
    · exact Nat.le_refl _
    · split
      · exact Nat.le_succ _
      · exact Nat.succ_le_succ (len_ins ys)
theorem len_srt : ∀ xs : List Int, (srt xs).length ≤ xs.length
  | [] => Nat.le_refl _
  | x :: xs => Nat.le_trans (len_ins _) (Nat.succ_le_succ (len_srt xs))
def big : Int := 100000000000000000000
def testsL (ks : List Int) : List Int := [-big, big] ++ ks.flatMap fun e => [e - 1, e, e + 1]
theorem len_testsL (ks : List Int) : (testsL ks).length = 2 + 3 * ks.length := by
  unfold testsL
  rw [List.length_append]
  have : (ks.flatMap fun e => [e - 1, e, e + 1]).length = 3 * ks.length := by
    induction ks with
    | nil => rfl
    | cons x xs ih =>
      rw [List.flatMap_cons, List.length_append, ih]
      show 3 + 3 * xs.length = 3 * (xs.length + 1)
      omega
  rw [this]
  rfl
def R__law_tests (ds : List PyData) (d : PyData) : Prop := ∃ ks : List Int, ks.length ≤ 19 ∧ ds = [eIs ks] ∧ d = eIs (srt (testsL ks))
theorem r__law_tests {ks : List Int} (h : ks.length ≤ 19) : R__law_tests [eIs ks] (eIs (srt (testsL ks))) := ⟨ks, h, rfl, rfl⟩
theorem ok__law_tests (F : Fun K "_law_tests" "_law_tests" s__law_tests f fd) (B : Blt mg) : FnOk P w K mg base CX0 1 f fd p__law_tests (spD R__law_tests) := by
  have nd := sc__law_tests.nd
  refine fun_pure F sc__law_tests (fun _ _ h => ?_) fun cdv A outer s H E hr => ⟨_, (pss_cons (ps_set (i := 1) nd rfl (by first | exact .inl rfl | exact .inr rfl) (pe_lst (pa_cons (pe_un un_neg (pe_op op_pow pe_int pe_int)) (pa_cons (pe_op op_pow pe_int pe_int) pa_nil))))
      (pss_cons (ps_for PassesOwn.never rfl (ki_list K rfl (pv 0)) (pg_name (i := 2) nd rfl (by first | exact .inl rfl | exact .inr rfl)) (pss_one (ps_set (i := 1) nd rfl (by first | exact .inl rfl | exact .inr rfl) (pe_op op_cat (pv 1) (pe_lst (pa_cons (pe_op op_sub (pv 2) pe_int) (pa_cons (pv 2) (pa_cons (pe_op op_add (pv 2) pe_int) pa_nil))))))))
      (pss_one (ps_ret (pe_callB (k_sorted w rfl rfl) rfl B.sorted (by decide +kernel) (pa_cons (pe_callTy (k_set K w rfl rfl rfl) rfl B.set (by decide +kernel) (pa_cons (pv 1) pa_nil)) pa_nil)))))), fun ds d hR => ?_⟩
  · obtain ⟨ks, hk, rfl, rfl⟩ := h; rfl
  obtain ⟨ks, hk, rfl, rfl⟩ := hR
  refine' run_seq (run_set (d := eIs [-big, big]) (ev_lst (ea_cons (ev_is (ev_un (ev_op ev_int ev_int (op_iC ⟨by decide, by decide, by decide⟩)) un_i) (congrArg PyData.int (by decide +kernel : _ = -big))) (ea_cons (ev_is (ev_op ev_int ev_int (op_iC ⟨by decide, by decide, by decide⟩)) (congrArg PyData.int (by decide +kernel : _ = big))) ea_nil)) (Nat.le_of_ble_eq_true rfl)) ?_)
  refine' run_seq (run_for (ei_list (ds := ks.map PyData.int) ?_) (fun i Γ => ∃ u, Γ = [.dat (eIs ks), .dat (eIs (testsL (ks.take i))), u]) ⟨_, rfl⟩ (fun i d Γi ed hI => ?_) (fun Γn hI => ?_))
  · walk_at "go"
  · obtain ⟨u, rfl⟩ := hI
    obtain ⟨e, ee, rfl⟩ := map_at ed
    have hl : (testsL (ks.take i)).length ≤ 60 := by rw [len_testsL, List.length_take]; omega
    refine ⟨_, _, eg_name, ?_⟩
    refine' run_set (d := eIs (testsL (ks.take (i + 1)))) (ev_is (ev_op (a := eIs (testsL (ks.take i))) (b := eIs [e - 1, e, e + 1]) ?_ (ev_lst (ea_cons (ev_op (a := .int e) ?_ ?_ op_ii) (ea_cons ?_ (ea_cons (ev_op (a := .int e) ?_ ?_ op_ii) ea_nil))) (Nat.le_of_ble_eq_true rfl)) (op_catl (by rw [List.length_map, List.length_map]; show _ + 3 ≤ _; omega))) ?_) ⟨_, rfl⟩
    walk_at "go"
    rw [List.take_add_one, ee]
    show PyData.list _ = PyData.list _
    rw [← List.map_append]
    unfold testsL
    rw [List.flatMap_append, ← List.append_assoc]
    rfl
  · obtain ⟨u, rfl⟩ := hI
    rw [List.length_map, List.take_length]
    refine' run_ret (ev_sortset (ns := testsL ks) ?_ (by rw [len_testsL]; omega) (asc_srt _) fun k => mem_srt _) ?_
    walk_at "go"
abbrev s__law_is_end : Stmt := topS 47
abbrev N__law_is_end : List PySem.Str := ["_law_end_here", "_law_ends", "_law_part"]
abbrev p__law_is_end : List PySem.Str := ["_law_end_here", "_law_ends"]
theorem sc__law_is_end : FnScope N__law_is_end p__law_is_end (defScope s__law_is_end) := ⟨rfl, rfl, rfl, by decide +kernel, rfl, by decide +kernel, by decide +kernel⟩
def EndIn (o : Option Fr) (fs : List Fr) : Prop := ∀ f, o = some f → f ∈ fs
def R__law_is_end (ds : List PyData) (d : PyData) : Prop := ∃ (o : Option Fr) (fs : List Fr), EndIn o fs ∧ ds = [eO o, eFs fs] ∧ d = .bool true
theorem ok__law_is_end (F : Fun K "_law_is_end" "_law_is_end" s__law_is_end f fd) (B : Blt mg) : FnOk P w K mg base CX0 1 f fd p__law_is_end (spD R__law_is_end) := by
  have nd := sc__law_is_end.nd
  refine fun_pure F sc__law_is_end (fun _ _ h => ?_) fun cdv A outer s H E hr => ⟨_, (pss_cons (ps_if (pt_cmpR op_isN (pv 0) pe_non (nomark _)) (pss_one (ps_ret pe_bl)) pss_nil)
      (pss_one (ps_ret (pe_and (pe_callB (k_isi K rfl) rfl B.isinstance (by decide +kernel) (pa_cons (pv 0) (pa_cons (pe_bltn (v := .ty "tuple") rfl B.tuple (by decide +kernel) rfl) pa_nil))) (pe_and (pe_cmpR (k_inD K rfl (room65 hr)) (pv 0) (pv 1) (by rfl)) (pe_one (pe_not (pe_callB (k_any K rfl rfl) rfl B.any (by decide +kernel) (pa_cons (pe_lc (own := [("_law_part", 2)]) rfl nd (ki_tup K rfl (pv 0)) (blkOk_by (by kernel_rfl)) (fun _ _ _ _ _ => (pg_name (i := 2) nd rfl (by first | exact .inl rfl | exact .inr rfl))) (fun _ _ _ _ _ => pts_nil) (fun _ _ _ _ _ => (pe_callB (k_isi K rfl) rfl B.isinstance (by decide +kernel) (pa_cons (pv 2) (pa_cons (pe_bltn (v := .ty "bool") rfl B.bool (by decide +kernel) rfl) pa_nil))))) pa_nil))))))))), fun ds d hR => ?_⟩
  · obtain ⟨o, fs, ho, rfl, rfl⟩ := h; rfl
  obtain ⟨o, fs, ho, rfl, rfl⟩ := hR
  cases o with
  | none => refine' run_seq (run_if1 ?_ rfl (run_ret ?_ ?_)); walk_at "go"
  | some v =>
    have hv := ho v rfl
    refine' run_seq (run_if0 ?_ rfl (run_next (run_ret (ev_and1 (ev_isi (b := true) (d := eF v) ?_ rfl) (ev_and1 (ev_is (ev_op (a := eF v) (b := eFs fs) ?_ ?_ od_inFs) (congrArg PyData.bool (decide_eq_true hv))) (ev_is (ev_not (ev_cb (ea_cons (el_d (el_map [v.1, v.2] PyData.int (fun _ => .bool false) (ei_tup (ds := [.int v.1, .int v.2]) ?_) (Nat.le_of_ble_eq_true rfl) rfl fun i hi => ⟨_, _, eg_name, rfl, ev_isi (d := .int i) (b := false) ?_ rfl⟩)) ea_nil) (ca_anym (xs := [v.1, v.2]) (g := fun _ => false)))) rfl))) ?_)))
    walk_at "go"
end
end Bx
namespace Bx
open PySem PySem.Spec L2 PyProof.Rows
def toldLo (s v : Int) : Option Fr → Bool
  | none => true
  | some f => !decide (f.1 * s > v * f.2)
def toldHi (s v : Int) : Option Fr → Bool
  | none => true
  | some f => decide (v * f.2 ≤ f.1 * s)
def toldF (r : Rf) (s v : Int) : Bool := toldLo s v r.1 && toldHi s v r.2
structure BoxOk (s : Int) (b : List Rf) (ts : List (List Int × List Fr)) (due : List (List Int)) : Prop where
  len : b.length = due.length
  lt : ts.length = due.length
  ok : ∀ i, i < due.length → ∃ r t d, b[i]? = some r ∧ ts[i]? = some t ∧ due[i]? = some d ∧ ROk r ∧ EndIn r.1 t.2 ∧ EndIn r.2 t.2 ∧ t.1.length ≤ 100 ∧ t.1.filter (toldF r s) = d
def BoxRight (s : Int) (ob : Option (List Rf)) (ts : List (List Int × List Fr)) (due : List (List Int)) : Prop := ([] ∈ due ∧ ob = none) ∨ ((∀ d ∈ due, d ≠ []) ∧ ∃ b, ob = some b ∧ BoxOk s b ts due)
theorem nth_eTs {ts : List (List Int × List Fr)} {i : Nat} {t : List Int × List Fr} (h : ts[i]? = some t) : atI (ts.map eT) (i : Int) = some (eT t) := atI_nat (by rw [List.getElem?_map, h]; rfl)
theorem nth_eIs {ts : List (List Int)} {i : Nat} {t : List Int} (h : ts[i]? = some t) : atI (ts.map eIs) (i : Int) = some (eIs t) := atI_nat (by rw [List.getElem?_map, h]; rfl)
theorem nth_eR {ts : List Rf} {i : Nat} {t : Rf} (h : ts[i]? = some t) : atI (ts.map eR) (i : Int) = some (eR t) := atI_nat (by rw [List.getElem?_map, h]; rfl)
theorem nth_eOI {ts : List OI} {i : Nat} {t : OI} (h : ts[i]? = some t) : atI (ts.map eOI) (i : Int) = some (eOI t) := atI_nat (by rw [List.getElem?_map, h]; rfl)
theorem eb (b : Bool) {d : PyData} (e : b = false) (h : d = .bool b) : d = .bool false := h.trans (congrArg PyData.bool e)
local macro_rules | `(tactic| walk_at "ev") => `(tactic| repeat' (first
  | with_reducible exact ev_int
  | ((with_reducible apply ev_var); exact rfl)
  | with_reducible exact ev_non
  | with_reducible exact ev_bl
  | with_reducible exact ev_str
  | with_reducible exact ea_nil
  | with_reducible apply ea_cons
  | with_reducible apply et_test
  | with_reducible apply et_B
  | with_reducible exact et_yes
  | with_reducible apply ev_op
  | with_reducible exact op_ii
  | with_reducible exact op_ib
  | ((with_reducible apply op_ixT); exact rfl)
  | ((with_reducible apply op_ixL); exact rfl)
  | with_reducible exact op_isN'
  | with_reducible exact op_notN'
  | ((with_reducible show OpD (fun x y H Q => y = _ ∧ _) _ _ _); first | exact op_isN' | exact op_notN')
  | with_reducible refine' ev_tup ?_ (Nat.le_of_ble_eq_true rfl)
  | with_reducible refine' ev_lst ?_ (Nat.le_of_ble_eq_true rfl)
  | with_reducible apply ev_call
  | with_reducible apply ev_calK
  | with_reducible apply ev_un
  | with_reducible exact un_i
  | with_reducible apply et_not
  | with_reducible apply ev_not
  | ((with_reducible apply op_iC); first | assumption | exact FOk.mul (by assumption) _)
  | with_reducible apply ev_cb
  | with_reducible exact ca_lenL'
  | with_reducible exact ca_lenT'
  | with_reducible exact ca_int
  | with_reducible exact ca_abs
  | with_reducible exact ca_tuple'
  | ((with_reducible apply ev_and))
  | ((with_reducible refine fun (hh : _ = _) => ?_); first | cases hh | skip)))
local macro_rules | `(tactic| walk_at "go") => `(tactic| ((all_goals (walk_at "ev")); (all_goals (try exact rfl))))
section
variable {P : Program} {w : World} {K : PySem.W.Frag} {mg : PySem.Str → Option Value} {base : Heap} {f : Addr} {fd : FuncData}
abbrev s__law_told_has : Stmt := topS 48
abbrev N__law_told_has : List PySem.Str := ["_law_ends", "_law_value", "_law_scale", "_law_low", "_law_high"]
abbrev p__law_told_has : List PySem.Str := ["_law_ends", "_law_value", "_law_scale"]
theorem sc__law_told_has : FnScope N__law_told_has p__law_told_has (defScope s__law_told_has) := ⟨rfl, rfl, rfl, by decide +kernel, rfl, by decide +kernel, by decide +kernel⟩
def R__law_told_has (ds : List PyData) (d : PyData) : Prop := ∃ (r : Rf) (v s : Int), ROk r ∧ SOk s ∧ ds = [eR r, .int v, .int s] ∧ d = .bool (toldF r s v)
theorem r__law_told_has {r : Rf} {v s : Int} (h : ROk r) (hs : SOk s) : R__law_told_has [eR r, .int v, .int s] (.bool (toldF r s v)) := ⟨r, v, s, h, hs, rfl, rfl⟩
theorem ok__law_told_has (F : Fun K "_law_told_has" "_law_told_has" s__law_told_has f fd) (B : Blt mg) : FnOk P w K mg base CX0 1 f fd p__law_told_has (spD R__law_told_has) := by
  have nd := sc__law_told_has.nd
  refine fun_pure F sc__law_told_has (fun _ _ h => ?_) fun cdv A outer s H E hr => ⟨_, (pss_cons (ps_asg (pv 0) (kg_tup (n := 2) K rfl rfl (pgs_cons (pg_name (i := 3) nd rfl (by first | exact .inl rfl | exact .inr rfl)) (pgs_cons (pg_name (i := 4) nd rfl (by first | exact .inl rfl | exact .inr rfl)) pgs_nil))))
      (pss_cons (ps_if (PW.pt (pw_and (pt_cmpR op_notN (pv 3) pe_non (nomark _)) (pw_and1 (pt_cmpR op_gt (pe_op op_mul (pe_ix (k_ixT K rfl) (pv 3) pe_int (fun _ _ => rfl)) (pv 2)) (pe_op op_mul (pv 1) (pe_ix (k_ixT K rfl) (pv 3) pe_int (fun _ _ => rfl))) (nomark _))))) (pss_one (ps_ret pe_bl)) pss_nil)
      (pss_one (ps_ret (pe_or (pe_cmpR op_isN (pv 4) pe_non (nomark _)) (pe_one (pe_cmpR op_le (pe_op op_mul (pv 1) (pe_ix (k_ixT K rfl) (pv 4) pe_int (fun _ _ => rfl))) (pe_op op_mul (pe_ix (k_ixT K rfl) (pv 4) pe_int (fun _ _ => rfl)) (pv 2)) (nomark _)))))))), fun ds d hR => ?_⟩
  · obtain ⟨r, v, s, hr, hs, rfl, rfl⟩ := h; rfl
  obtain ⟨r, v, s, hr, hs, rfl, rfl⟩ := hR
  obtain ⟨lo, hi⟩ := r
  have cs : ∀ i : Int, CMul i s := fun i => .inr ⟨by have := hs.1; omega, by have := hs.2; omega⟩
  have last : ∀ Γ : Ge, Γ = [.dat (eR (lo, hi)), .dat (.int v), .dat (.int s), .dat (eO lo), .dat (eO hi)] → EvD (tOrV (tOp (fun x y H Q => y = .non ∧ Q (.bl (decide (x = .non))) H) (tVar 4) (tC .non)) (tOp (rI0 fun i j => .bl (decide (i ≤ j))) (tOp (rI CMul fun i j => .int (i * j)) (tVar 1) (tOp (rIxT K) (tVar 4) (tC (.int 1)))) (tOp (rI CMul fun i j => .int (i * j)) (tOp (rIxT K) (tVar 4) (tC (.int 0))) (tVar 2)))) Γ (.bool (toldHi s v hi)) := fun Γ eΓ => by
    subst eΓ
    cases hi with
    | none => refine' ev_or1 ?_; walk_at "go"
    | some f =>
      have hf := hr.2 f rfl
      refine' ev_or0 ?_ (ev_op (ev_op (a := .int v) (b := .int f.2) ?_ ?_ (op_iC (hf.mul _))) (ev_op (a := .int f.1) (b := .int s) ?_ ?_ (op_iC (cs _))) op_ib)
      walk_at "go"
  refine' run_seq (run_asg (ev_var (d := eR (lo, hi)) rfl) (eg_tup rfl (egs_cons eg_name (egs_cons eg_name egs_nil))) ?_)
  cases lo with
  | none =>
    refine' run_seq (run_if0 (et_and0 ?_) rfl (run_next (run_ret (last _ rfl) ?_)))
    walk_at "go"
  | some f =>
    have hf := hr.1 f rfl
    refine' run_seq (run_if (et_and1 ?_ (et_test (ev_op (ev_op (a := .int f.1) (b := .int s) ?_ ?_ (op_iC (cs _))) (ev_op (a := .int v) (b := .int f.2) ?_ ?_ (op_iC (hf.mul _))) op_ib))) (fun e => run_ret ev_bl ?_) (fun e => run_next (run_ret (last _ rfl) ?_)))
    · walk_at "go"
    · walk_at "go"
    · walk_at "go"
    · walk_at "go"
    · walk_at "go"
    · show PyData.bool false = .bool (toldF (some f, hi) s v)
      unfold toldF toldLo
      simp only [e]
      rfl
    · show _ = PyData.bool (toldF (some f, hi) s v)
      unfold toldF toldLo
      simp only [e]
      rfl
abbrev s__law_box_right : Stmt := topS 50
abbrev N__law_box_right : List PySem.Str := ["_law_box", "_law_tests_here", "_law_due", "_law_scale", "_law_at", "_law_values", "_law_ends", "_law_some", "_law_value"]
abbrev p__law_box_right : List PySem.Str := ["_law_box", "_law_tests_here", "_law_due", "_law_scale"]
theorem sc__law_box_right : FnScope N__law_box_right p__law_box_right (defScope s__law_box_right) := ⟨rfl, rfl, rfl, by decide +kernel, rfl, by decide +kernel, by decide +kernel⟩
def R__law_box_right (ds : List PyData) (d : PyData) : Prop := ∃ (ob : Option (List Rf)) (ts : List (List Int × List Fr)) (due : List (List Int)) (s : Int), due.length ≤ 100 ∧ SOk s ∧ BoxRight s ob ts due ∧ ds = [eOB ob, .list (ts.map eT), .list (due.map eIs), .int s] ∧ d = .bool true
theorem r__law_box_right {ob : Option (List Rf)} {ts : List (List Int × List Fr)} {due : List (List Int)} {s : Int} (hl : due.length ≤ 100) (hs : SOk s) (h : BoxRight s ob ts due) : R__law_box_right [eOB ob, .list (ts.map eT), .list (due.map eIs), .int s] (.bool true) := ⟨ob, ts, due, s, hl, hs, h, rfl, rfl⟩
theorem ok__law_box_right (F : Fun K "_law_box_right" "_law_box_right" s__law_box_right f fd) (B : Blt mg) (c__law_is_end : Cal P w K mg base 1 "_law_is_end" p__law_is_end (spD R__law_is_end)) (c__law_told_has : Cal P w K mg base 1 "_law_told_has" p__law_told_has (spD R__law_told_has)) : FnOk P w K mg base CX0 2 f fd p__law_box_right (spD R__law_box_right) := by
  have nd := sc__law_box_right.nd
  refine fun_pure F sc__law_box_right (fun _ _ h => ?_) fun cdv A outer s H E hr => ⟨_, (pss_cons (ps_if (pt_val (pe_callB (k_any K rfl rfl) rfl B.any (by decide +kernel) (pa_cons (pe_lc (own := [("_law_some", 7)]) rfl nd (ki_list K rfl (pv 2)) (blkOk_by (by kernel_rfl)) (fun _ _ _ _ _ => (pg_name (i := 7) nd rfl (by first | exact .inl rfl | exact .inr rfl))) (fun _ _ _ _ _ => pts_nil) (fun _ _ _ _ _ => (pe_cmpR (k_eq K rfl hr.units) (pe_callB (k_len K rfl) rfl B.len (by decide +kernel) (pa_cons (pv 7) pa_nil)) pe_int (nomark _)))) pa_nil))) (pss_one (ps_ret (pe_cmpR op_isN (pv 0) pe_non (nomark _)))) pss_nil)
      (pss_cons (ps_if (PW.pt (pw_or (pt_not (pt_val (pe_callB (k_isi K rfl) rfl B.isinstance (by decide +kernel) (pa_cons (pv 0) (pa_cons (pe_bltn (v := .ty "tuple") rfl B.tuple (by decide +kernel) rfl) pa_nil))))) (pw_or1 (pt_cmpR (k_ne K rfl hr.units) (pe_callB (k_len K rfl) rfl B.len (by decide +kernel) (pa_cons (pv 0) pa_nil)) (pe_callB (k_len K rfl) rfl B.len (by decide +kernel) (pa_cons (pv 2) pa_nil)) (nomark _))))) (pss_one (ps_ret pe_bl)) pss_nil)
      (pss_cons (ps_for PassesOwn.never rfl (pi_range1 rfl B.range (pa_cons (pe_callB (k_len K rfl) rfl B.len (by decide +kernel) (pa_cons (pv 2) pa_nil)) pa_nil)) (pg_name (i := 4) nd rfl (by first | exact .inl rfl | exact .inr rfl)) (pss_cons (ps_if (PW.pt (pw_or (pt_not (pt_val (pe_callB (k_isi K rfl) rfl B.isinstance (by decide +kernel) (pa_cons (pe_ix (k_ixT K rfl) (pv 0) (pv 4) (fun _ _ => rfl)) (pa_cons (pe_bltn (v := .ty "tuple") rfl B.tuple (by decide +kernel) rfl) pa_nil))))) (pw_or1 (pt_cmpR (k_ne K rfl hr.units) (pe_callB (k_len K rfl) rfl B.len (by decide +kernel) (pa_cons (pe_ix (k_ixT K rfl) (pv 0) (pv 4) (fun _ _ => rfl)) pa_nil)) pe_int (nomark _))))) (pss_one (ps_ret pe_bl)) pss_nil)
      (pss_cons (ps_asg (pe_ix (k_ixL K rfl) (pv 1) (pv 4) (fun _ _ => rfl)) (kg_tup (n := 2) K rfl rfl (pgs_cons (pg_name (i := 5) nd rfl (by first | exact .inl rfl | exact .inr rfl)) (pgs_cons (pg_name (i := 6) nd rfl (by first | exact .inl rfl | exact .inr rfl)) pgs_nil))))
      (pss_cons (ps_if (PW.pt (pw_or (pt_not (pt_val (pe_calD c__law_is_end hr (by decide) rfl (pa_cons (pe_ix (k_ixT K rfl) (pe_ix (k_ixT K rfl) (pv 0) (pv 4) (fun _ _ => rfl)) pe_int (fun _ _ => rfl)) (pa_cons (pv 6) pa_nil))))) (pw_or1 (pt_not (pt_val (pe_calD c__law_is_end hr (by decide) rfl (pa_cons (pe_ix (k_ixT K rfl) (pe_ix (k_ixT K rfl) (pv 0) (pv 4) (fun _ _ => rfl)) pe_int (fun _ _ => rfl)) (pa_cons (pv 6) pa_nil)))))))) (pss_one (ps_ret pe_bl)) pss_nil)
      (pss_one (ps_if (pt_cmpR (k_ne K rfl hr.units) (pe_lc (own := [("_law_value", 8)]) rfl nd (ki_list K rfl (pv 5)) (blkOk_by (by kernel_rfl)) (fun _ _ _ _ _ => (pg_name (i := 8) nd rfl (by first | exact .inl rfl | exact .inr rfl))) (fun _ _ _ _ _ => (pts_one (pt_val (pe_calD c__law_told_has hr (by decide) rfl (pa_cons (pe_ix (k_ixT K rfl) (pv 0) (pv 4) (fun _ _ => rfl)) (pa_cons (pv 8) (pa_cons (pv 3) pa_nil))))))) (fun _ _ _ _ _ => (pv 8))) (pe_ix (k_ixL K rfl) (pv 2) (pv 4) (fun _ _ => rfl)) (nomark _)) (pss_one (ps_ret pe_bl)) pss_nil))))))
      (pss_one (ps_ret pe_bl))))), fun ds d hR => ?_⟩
  · obtain ⟨ob, ts, due, s, hl, hs, hb, rfl, rfl⟩ := h; rfl
  obtain ⟨ob, ts, due, s, hl, hs, hb, rfl, rfl⟩ := hR
  have em : ∀ d : List Int, decide (((d.map PyData.int).length : Int) = 0) = decide (d = []) := fun d => by
    rw [List.length_map]; cases d with
    | nil => rfl
    | cons _ _ => exact decide_eq_decide.mpr ⟨fun h => by simp at h; omega, fun h => by cases h⟩
  have any1 : EvT (tTest (tCB (rAny K) (tCons (tLc (iList K (tVar 2)) (gName 7) tYes (tOp (rEqD K) (tCB (rLenK K) (tCons (tVar 7) tNil)) (tC (.int 0))) [7]) tNil))) [.dat (eOB ob), .dat (.list (ts.map eT)), .dat (.list (due.map eIs)), .dat (.int s), .non, .non, .non, .non, .non] (due.any fun d => decide (d = [])) := by
    refine' et_test (ev_cb (ea_cons (el_d (el_map due eIs (fun d => .bool (decide (d = []))) (ei_list ?_) (by omega) rfl fun d hd => ⟨_, _, eg_name, rfl, ev_is (ev_op (ev_cb (ea_cons (a := eIs d) ?_ ea_nil) ca_lenL') ev_int od_eqI) (congrArg PyData.bool (em d))⟩)) ea_nil) ca_anym)
    walk_at "go"
  rcases hb with ⟨hin, rfl⟩ | ⟨hne, b, rfl, hb⟩
  · refine' run_seq (run_if1 any1 (List.any_eq_true.mpr ⟨[], hin, rfl⟩) (run_ret ?_ ?_))
    walk_at "go"
  · refine' run_seq (run_if0 any1 (by rw [List.any_eq_false]; exact fun d hd => by simpa using hne d hd) (run_next ?_))
    refine' run_seq (run_if0 (et_or0 (et_not (c := true) (et_test (ev_isi (d := eB b) ?_ rfl))) (et_is (et_test (ev_op (ev_cb (ea_cons (a := eB b) ?_ ea_nil) ca_lenT') (ev_cb (ea_cons (a := .list (due.map eIs)) ?_ ea_nil) ca_lenL') od_neI)) (y := false) (by rw [List.length_map, List.length_map, hb.len]; simp))) rfl (run_next ?_))
    · walk_at "go"
    · walk_at "go"
    · walk_at "go"
    refine' run_seq (run_for (ei_range1 (n := (due.length : Int)) (ea_cons (ev_is (ev_cb (ea_cons (a := .list (due.map eIs)) ?_ ea_nil) ca_lenL') (by rw [List.length_map])) ea_nil) (by omega) (by omega)) (fun i Γ => ∃ u v x, Γ = [.dat (eB b), .dat (.list (ts.map eT)), .dat (.list (due.map eIs)), .dat (.int s), u, v, x, .non, .non]) ⟨_, _, _, rfl⟩ (fun i d Γi ed hI => ?_) (fun Γn hI => ?_))
    · walk_at "go"
    · obtain ⟨u, v, x, rfl⟩ := hI
      obtain ⟨j, ej, rfl⟩ := map_at ed
      have hj : j < due.length := by have := List.mem_range.mp (List.mem_of_getElem? ej); omega
      obtain ⟨r, t, d, e1, e2, e3, hr, n1, n2, tl, ht⟩ := hb.ok j hj
      refine ⟨_, _, eg_name, ?_⟩
      have ix : ∀ {Γ : Ge}, Γ[0]? = some (.dat (eB b)) → Γ[4]? = some (.dat (.int (j : Nat))) → EvD (tOp (rIxT K) (tVar 0) (tVar 4)) Γ (eR r) := fun g0 g4 => ev_op (ev_var g0) (ev_var g4) (op_ixT (nth_eR e1))
      refine' run_seq (run_if0 (et_or0 (et_not (c := true) (et_test (ev_isi (d := eR r) (ix rfl rfl) rfl))) (et_is (et_test (ev_op (ev_cb (ea_cons (ix rfl rfl) ea_nil) ca_lenT') ev_int od_neI)) (y := false) rfl)) rfl (run_next ?_))
      refine' run_seq (run_asg (ev_op (a := .list (ts.map eT)) (b := .int (j : Nat)) ?_ ?_ (op_ixL (nth_eTs e2))) (eg_tup rfl (egs_cons eg_name (egs_cons eg_name egs_nil))) ?_)
      · walk_at "go"
      · walk_at "go"
      refine' run_seq (run_if0 (et_or0 (et_not (c := true) (et_B (ev_call (ea_cons (ev_op (ix rfl rfl) ev_int (op_ixT (d := eO r.1) rfl)) (ea_cons ?_ ea_nil)) ⟨r.1, t.2, n1, rfl, rfl⟩))) (et_not (c := true) (et_B (ev_call (ea_cons (ev_op (ix rfl rfl) ev_int (op_ixT (d := eO r.2) rfl)) (ea_cons ?_ ea_nil)) ⟨r.2, t.2, n2, rfl, rfl⟩)))) rfl (run_next ?_))
      · walk_at "go"
      · walk_at "go"
      refine' run_if0 (et_is (et_test (ev_op (a := eIs (t.1.filter (toldF r s))) (b := eIs d) (el_d (el_lc t.1 PyData.int (toldF r s) PyData.int (ei_list ?_) (by omega) rfl fun y hy => ⟨_, _, eg_name, rfl, et_test (ev_call (ea_cons (ix rfl rfl) (ea_cons ?_ (ea_cons ?_ ea_nil))) (r__law_told_has hr hs)), fun _ => ?_⟩)) (ev_op (a := .list (due.map eIs)) (b := .int (j : Nat)) ?_ ?_ (op_ixL (nth_eIs e3))) od_neIs)) (y := false) (by rw [ht]; simp)) rfl (run_next ⟨_, _, _, rfl⟩)
      walk_at "go"
    · obtain ⟨u, v, x, rfl⟩ := hI
      refine' run_ret ?_ ?_
      walk_at "go"
end
end Bx
namespace Bx
open PySem PySem.Spec L2 PyProof.Rows
structure Co where
  a : OI
  b : OI
  cut : Int
  ks : List Int
def Co.no : Co := ⟨(none, none), (none, none), 0, []⟩
def Co.T (c : Co) : List Int := srt (testsL c.ks)
def Co.t (s : Int) (c : Co) : List Int × List Fr := (c.T, (srt c.ks).map (fr s))
def Co.mine (c : Co) : List Int := c.T.filter (hasI c.a)
def Co.yours (c : Co) : List Int := c.T.filter (hasI c.b)
def Co.both (c : Co) : List Int := c.mine.filter fun v => decide (v ∈ c.yours)
def loT (r : OI) : Int := r.1.getD (-big)
def hiT (r : OI) : Int := r.2.getD big
def Co.least (c : Co) : Int := min (loT c.a) (loT c.b)
def Co.most (c : Co) : Int := max (hiT c.a) (hiT c.b)
def Co.hull (c : Co) : List Int := c.T.filter fun v => decide (c.least ≤ v) && decide (v ≤ c.most)
abbrev boxA (s : Int) (cs : List Co) : List Rf := (cs.map Co.a).map (frR s)
abbrev boxB (s : Int) (cs : List Co) : List Rf := (cs.map Co.b).map (frR s)
structure Two (s : Int) (cs : List Co) : Prop where
  hs : SOk s
  len : cs.length ≤ 100
  tl : ∀ c ∈ cs, c.T.length ≤ 100
  oka : BOk (boxA s cs)
  okb : BOk (boxB s cs)
  mn : ∀ c ∈ cs, c.least ∈ c.mine ++ c.yours ∧ ∀ y ∈ c.mine ++ c.yours, c.least ≤ y
  mx : ∀ c ∈ cs, c.most ∈ c.mine ++ c.yours ∧ ∀ y ∈ c.mine ++ c.yours, y ≤ c.most
  cb : BoxRight s (commonF (boxA s cs) (boxB s cs)) (cs.map (Co.t s)) (cs.map Co.both)
  cbs : commonF (boxB s cs) (boxA s cs) = commonF (boxA s cs) (boxB s cs)
  jb : BoxRight s (some (joinedF (boxA s cs) (boxB s cs))) (cs.map (Co.t s)) (cs.map Co.hull)
  jbs : joinedF (boxB s cs) (boxA s cs) = joinedF (boxA s cs) (boxB s cs)
  w1 : withinF (boxA s cs) (boxB s cs) = decide (cs.map Co.both = cs.map Co.mine)
  w2 : withinF (boxB s cs) (boxA s cs) = decide (cs.map Co.both = cs.map Co.yours)
  w3 : withinF (boxA s cs) (joinedF (boxA s cs) (boxB s cs)) = true
  w4 : withinF (boxB s cs) (joinedF (boxA s cs) (boxB s cs)) = true
  w5 : withinF (joinedF (boxA s cs) (boxB s cs)) (boxA s cs) = decide (cs.map Co.hull = cs.map Co.mine)
  w6 : ∀ c, commonF (boxA s cs) (boxB s cs) = some c → withinF c (boxA s cs) = true ∧ withinF c (boxB s cs) = true ∧ withinF (boxA s cs) (boxA s cs) = true
abbrev eIss (xs : List (List Int)) : PyData := .list (xs.map eIs)
theorem range_map {α β : Type} (g : α → β) (d : α) : ∀ xs : List α, (List.range xs.length).map (fun i => g (xs.getD i d)) = xs.map g := fun xs => by
  refine List.ext_getElem (by simp) fun i h1 h2 => ?_
  have hi : i < xs.length := by simpa using h2
  rw [List.getElem_map, List.getElem_map, List.getElem_range, List.getD_eq_getElem?_getD, List.getElem?_eq_getElem hi]
  rfl
theorem getD_get {α : Type} {xs : List α} {d : α} {i : Nat} (h : i < xs.length) : xs[i]? = some (xs.getD i d) := by
  rw [List.getD_eq_getElem?_getD, List.getElem?_eq_getElem h]; rfl
theorem nthm {α : Type} {f : α → PyData} {xs : List α} {i : Nat} {x : α} (h : xs[i]? = some x) : atI (xs.map f) (i : Int) = some (f x) := atI_nat (by rw [List.getElem?_map, h]; rfl)
theorem nthmm {α β : Type} {g : α → β} {f : β → PyData} {xs : List α} {i : Nat} {x : α} (h : xs[i]? = some x) : atI ((xs.map g).map f) (i : Int) = some (f (g x)) := nthm (by rw [List.getElem?_map, h]; rfl)
theorem eqv_Iss (xs ys : List (List Int)) : PyData.eqv (eIss xs) (eIss ys) = decide (xs = ys) := eqv_list (fun a b => eqv_list eqv_int a b) xs ys
theorem shp_Iss (xs : List (List Int)) : Shp 2 (eIss xs) := .list fun x _ => shp_ints x
theorem od_eqIss {K : PySem.W.Frag} {a b : List (List Int)} : OpD (rEqD K) (eIss a) (eIss b) (.bool (decide (a = b))) := by
  have h := op_eqd (K := K) ((shp_Iss a).ok (by decide)) ((shp_Iss b).ok (by decide))
  rw [eqv_Iss] at h
  exact h
theorem od_neB {K : PySem.W.Frag} {a b : Bool} : OpD (rNeD K) (.bool a) (.bool b) (.bool (!decide (a = b))) := by
  have h := op_ned (K := K) (a := .bool a) (b := .bool b) rfl rfl
  have e : PyData.eqv (.bool a) (.bool b) = decide (a = b) := by cases a <;> cases b <;> rfl
  rw [e] at h
  exact h
theorem od_neStr {a b : PySem.Str} (e : a = b) : OpD rNe (.str a) (.str b) (.bool false) := fun k h x y s rx ry Q q => by
  subst e
  rw [rx.str_inv, ry.str_inv]
  have : (!decide (V.str a = V.str a)) = false := by rw [decide_eq_true rfl]; rfl
  refine ⟨rfl, ?_⟩
  rw [this]
  exact q _ k h (.refl s) (.bl false)
theorem od_eqStr {a : PySem.Str} : OpD rEq (.str a) (.str a) (.bool true) := fun k h x y s rx ry Q q => by
  rw [rx.str_inv, ry.str_inv]
  have : decide (V.str a = V.str a) = true := decide_eq_true rfl
  refine ⟨rfl, ?_⟩
  rw [this]
  exact q _ k h (.refl s) (.bl true)
theorem od_neRep {a b : Bool} (e : a = b) : OpD rNe (.str (if a then "True" else "False")) (.str (if b then "True" else "False")) (.bool false) := od_neStr (by rw [e])
local macro_rules | `(tactic| walk_at "ev") => `(tactic| repeat' (first
  | with_reducible exact ev_int
  | ((with_reducible apply ev_var); exact rfl)
  | with_reducible exact ev_non
  | with_reducible exact ev_bl
  | with_reducible exact ev_str
  | with_reducible exact ea_nil
  | with_reducible apply ea_cons
  | with_reducible apply et_test
  | with_reducible apply et_B
  | with_reducible exact et_yes
  | with_reducible apply ev_op
  | with_reducible exact op_ii
  | with_reducible exact op_ib
  | ((with_reducible apply op_ixT); exact rfl)
  | ((with_reducible apply op_ixL); exact rfl)
  | with_reducible exact op_isN'
  | with_reducible exact op_notN'
  | ((with_reducible show OpD (fun x y H Q => y = _ ∧ _) _ _ _); first | exact op_isN' | exact op_notN')
  | with_reducible refine' ev_tup ?_ (Nat.le_of_ble_eq_true rfl)
  | with_reducible refine' ev_lst ?_ (Nat.le_of_ble_eq_true rfl)
  | with_reducible apply ev_call
  | with_reducible apply ev_calK
  | with_reducible apply ev_un
  | with_reducible exact un_i
  | with_reducible apply et_not
  | with_reducible apply ev_not
  | ((with_reducible apply op_iC); first | assumption | exact FOk.mul (by assumption) _)
  | with_reducible apply ev_cb
  | with_reducible exact ca_lenL'
  | with_reducible exact ca_lenT'
  | with_reducible exact ca_int
  | with_reducible exact ca_abs
  | with_reducible exact ca_tuple'
  | ((with_reducible apply ev_and))
  | ((with_reducible refine fun (hh : _ = _) => ?_); first | cases hh | skip)))
local macro_rules | `(tactic| walk_at "go") => `(tactic| ((all_goals (walk_at "ev")); (all_goals (try exact rfl))))
section
variable {P : Program} {w : World} {K : PySem.W.Frag} {mg : PySem.Str → Option Value} {base : Heap} {f : Addr} {fd : FuncData}
abbrev s__law_two_right : Stmt := topS 52
abbrev N__law_two_right : List PySem.Str := ["_law_one", "_law_two", "_law_box", "_law_other", "_law_tests_here", "_law_scale", "_law_spots", "_law_mine", "_law_yours", "_law_both", "_law_hull", "_law_at", "_law_some", "_law_least", "_law_most", "_law_joined", "_law_common", "_law_value"]
abbrev p__law_two_right : List PySem.Str := ["_law_one", "_law_two", "_law_box", "_law_other", "_law_tests_here", "_law_scale"]
theorem sc__law_two_right : FnScope N__law_two_right p__law_two_right (defScope s__law_two_right) := ⟨rfl, rfl, rfl, by decide +kernel, rfl, by decide +kernel, by decide +kernel⟩
def R__law_two_right (ds : List PyData) (d : PyData) : Prop := ∃ (cs : List Co) (s : Int), Two s cs ∧ ds = [.list ((cs.map Co.a).map eOI), .list ((cs.map Co.b).map eOI), eB (boxA s cs), eB (boxB s cs), .list ((cs.map (Co.t s)).map eT), .int s] ∧ d = .bool true
theorem ok__law_two_right (F : Fun K "_law_two_right" "_law_two_right" s__law_two_right f fd) (B : Blt mg) (c__law_all_in : Cal P w K mg base 2 "_law_all_in" p__law_all_in (spD R__law_all_in)) (c__law_box_right : Cal P w K mg base 2 "_law_box_right" p__law_box_right (spD R__law_box_right)) (c_common_box : Cal P w K mg base 3 "common_box" p_common_box (spD R_common_box)) (c_joined_box : Cal P w K mg base 4 "joined_box" p_joined_box (spD R_joined_box)) (c_within : Cal P w K mg base 4 "within" p_within (spD R_within)) : FnOk P w K mg base CX0 5 f fd p__law_two_right (spD R__law_two_right) := by
  have nd := sc__law_two_right.nd
  refine fun_pure F sc__law_two_right (fun _ _ h => ?_) fun cdv A outer s H E hr => ⟨_, (pss_cons (ps_set (i := 6) nd rfl (by first | exact .inl rfl | exact .inr rfl) (pe_listRg rfl rfl B.list (prg_1 rfl B.range (pe_callB (k_len K rfl) rfl B.len (by decide +kernel) (pa_cons (pv 0) pa_nil)))))
      (pss_cons (ps_asg (pe_tup (pa_cons (pe_lc (own := [("_law_at", 11)]) rfl nd (ki_list K rfl (pv 6)) (blkOk_by (by kernel_rfl)) (fun _ _ _ _ _ => (pg_name (i := 11) nd rfl (by first | exact .inl rfl | exact .inr rfl))) (fun _ _ _ _ _ => pts_nil) (fun _ _ _ _ _ => (pe_calD c__law_all_in hr (by decide) rfl (pa_cons (pe_ix (k_ixL K rfl) (pv 0) (pv 11) (fun _ _ => rfl)) (pa_cons (pe_ix (k_ixL K rfl) (pv 4) (pv 11) (fun _ _ => rfl)) pa_nil))))) (pa_cons (pe_lc (own := [("_law_at", 11)]) rfl nd (ki_list K rfl (pv 6)) (blkOk_by (by kernel_rfl)) (fun _ _ _ _ _ => (pg_name (i := 11) nd rfl (by first | exact .inl rfl | exact .inr rfl))) (fun _ _ _ _ _ => pts_nil) (fun _ _ _ _ _ => (pe_calD c__law_all_in hr (by decide) rfl (pa_cons (pe_ix (k_ixL K rfl) (pv 1) (pv 11) (fun _ _ => rfl)) (pa_cons (pe_ix (k_ixL K rfl) (pv 4) (pv 11) (fun _ _ => rfl)) pa_nil))))) pa_nil))) (kg_tup (n := 2) K rfl rfl (pgs_cons (pg_name (i := 7) nd rfl (by first | exact .inl rfl | exact .inr rfl)) (pgs_cons (pg_name (i := 8) nd rfl (by first | exact .inl rfl | exact .inr rfl)) pgs_nil))))
      (pss_cons (ps_setLc (i := 9) (own := [("_law_at", 11)]) rfl nd rfl rfl (sw_true rfl rfl rfl (by decide +kernel)) (ki_list K rfl (pv 6)) (blkOk_by (by kernel_rfl)) (fun _ _ _ _ _ => (pg_name (i := 11) nd rfl (by first | exact .inl rfl | exact .inr rfl))) (fun _ _ _ _ _ => pts_nil) (fun _ _ _ _ _ => (pe_lc (own := [("_law_value", 17)]) rfl nd (ki_list K rfl (pe_ix (k_ixL K rfl) (pv 7) (pv 11) (fun _ _ => rfl))) (blkOk_by (by kernel_rfl)) (fun _ _ _ _ _ => (pg_name (i := 17) nd rfl (by first | exact .inl rfl | exact .inr rfl))) (fun _ _ _ _ _ => (pts_one (pt_cmpR (k_in K rfl) (pv 17) (pe_ix (k_ixL K rfl) (pv 8) (pv 11) (fun _ _ => rfl)) (by rfl)))) (fun _ _ _ _ _ => (pv 17)))))
      (pss_cons (ps_set (i := 10) nd rfl (by first | exact .inl rfl | exact .inr rfl) (pe_lst pa_nil))
      (pss_cons (ps_for PassesOwn.never rfl (ki_list K rfl (pv 6)) (pg_name (i := 11) nd rfl (by first | exact .inl rfl | exact .inr rfl)) (pss_cons (ps_set (i := 12) nd rfl (by first | exact .inl rfl | exact .inr rfl) (pe_op op_cat (pe_ix (k_ixL K rfl) (pv 7) (pv 11) (fun _ _ => rfl)) (pe_ix (k_ixL K rfl) (pv 8) (pv 11) (fun _ _ => rfl))))
      (pss_cons (ps_asg (pe_tup (pa_cons (pe_callB (k_min K rfl rfl) rfl B.min (by decide +kernel) (pa_cons (pv 12) pa_nil)) (pa_cons (pe_callB (k_max K rfl rfl) rfl B.max (by decide +kernel) (pa_cons (pv 12) pa_nil)) pa_nil))) (kg_tup (n := 2) K rfl rfl (pgs_cons (pg_name (i := 13) nd rfl (by first | exact .inl rfl | exact .inr rfl)) (pgs_cons (pg_name (i := 14) nd rfl (by first | exact .inl rfl | exact .inr rfl)) pgs_nil))))
      (pss_one (ps_expr (pe_bm PySem.F.plainAttrs_list PySem.F.slot_list_append PySem.F.type_list_append mt_append (pv 10) (pa_cons (pe_lc (own := [("_law_value", 17)]) rfl nd (ki_list K rfl (pe_ix (k_ixT K rfl) (pe_ix (k_ixL K rfl) (pv 4) (pv 11) (fun _ _ => rfl)) pe_int (fun _ _ => rfl))) (blkOk_by (by kernel_rfl)) (fun _ _ _ _ _ => (pg_name (i := 17) nd rfl (by first | exact .inl rfl | exact .inr rfl))) (fun _ _ _ _ _ => (pts_one (pt_chain op_le op_le (pv 13) (pv 17) (pv 14)))) (fun _ _ _ _ _ => (pv 17))) pa_nil)))))))
      (pss_cons (ps_if (PW.pt (pw_or (pt_not (pt_val (pe_calD c__law_box_right hr (by decide) rfl (pa_cons (pe_calD c_common_box hr (by decide) rfl (pa_cons (pv 2) (pa_cons (pv 3) pa_nil))) (pa_cons (pv 4) (pa_cons (pv 9) (pa_cons (pv 5) pa_nil))))))) (pw_or1 (pt_cmpR (k_ne K rfl hr.units) (pe_calK c_common_box hr (by decide) rfl (pk_cons (pv 2) (pk_cons (pv 3) pk_nil))) (pe_calD c_common_box hr (by decide) rfl (pa_cons (pv 2) (pa_cons (pv 3) pa_nil))) (nomark _))))) (pss_one (ps_ret pe_bl)) pss_nil)
      (pss_cons (ps_if (PW.pt (pw_or (pt_not (pt_val (pe_calD c__law_box_right hr (by decide) rfl (pa_cons (pe_calD c_joined_box hr (by decide) rfl (pa_cons (pv 2) (pa_cons (pv 3) pa_nil))) (pa_cons (pv 4) (pa_cons (pv 10) (pa_cons (pv 5) pa_nil))))))) (pw_or1 (pt_cmpR (k_ne K rfl hr.units) (pe_calK c_joined_box hr (by decide) rfl (pk_cons (pv 2) (pk_cons (pv 3) pk_nil))) (pe_calD c_joined_box hr (by decide) rfl (pa_cons (pv 2) (pa_cons (pv 3) pa_nil))) (nomark _))))) (pss_one (ps_ret pe_bl)) pss_nil)
      (pss_cons (ps_if (PW.pt (pw_or (pt_cmpR op_ne (pe_callB cr_reprB rfl B.repr (by decide +kernel) (pa_cons (pe_calD c_within hr (by decide) rfl (pa_cons (pv 2) (pa_cons (pv 3) pa_nil))) pa_nil)) (pe_callB cr_reprB rfl B.repr (by decide +kernel) (pa_cons (pe_cmpR (k_eq K rfl hr.units) (pv 9) (pv 7) (nomark _)) pa_nil)) (nomark _)) (pw_or1 (pt_cmpR op_ne (pe_callB cr_reprB rfl B.repr (by decide +kernel) (pa_cons (pe_calK c_within hr (by decide) rfl (pk_cons (pv 2) (pk_cons (pv 3) pk_nil))) pa_nil)) (pe_callB cr_reprB rfl B.repr (by decide +kernel) (pa_cons (pe_cmpR (k_eq K rfl hr.units) (pv 9) (pv 8) (nomark _)) pa_nil)) (nomark _))))) (pss_one (ps_ret pe_bl)) pss_nil)
      (pss_cons (ps_par (i := 15) (j := 16) rfl nd rfl rfl (by decide) rfl rfl (pa_cons (pe_calD c_joined_box hr (by decide) rfl (pa_cons (pv 2) (pa_cons (pv 3) pa_nil))) (pa_cons (pe_calD c_common_box hr (by decide) rfl (pa_cons (pv 2) (pa_cons (pv 3) pa_nil))) pa_nil)) (by rfl))
      (pss_cons (ps_if (PW.pt (pw_or (pt_not (pt_val (pe_calD c_within hr (by decide) rfl (pa_cons (pv 2) (pa_cons (pv 15) pa_nil))))) (pw_or (pt_not (pt_val (pe_calD c_within hr (by decide) rfl (pa_cons (pv 3) (pa_cons (pv 15) pa_nil))))) (pw_or1 (pt_cmpR (k_ne K rfl hr.units) (pe_calD c_within hr (by decide) rfl (pa_cons (pv 15) (pa_cons (pv 2) pa_nil))) (pe_cmpR (k_eq K rfl hr.units) (pv 10) (pv 7) (nomark _)) (nomark _)))))) (pss_one (ps_ret pe_bl)) pss_nil)
      (pss_one (ps_ret (pe_or (pe_cmpR op_isN (pv 16) pe_non (nomark _)) (pe_one (pe_and (pe_calD c_within hr (by decide) rfl (pa_cons (pv 16) (pa_cons (pv 2) pa_nil))) (pe_and (pe_calD c_within hr (by decide) rfl (pa_cons (pv 16) (pa_cons (pv 3) pa_nil))) (pe_one (pe_calD c_within hr (by decide) rfl (pa_cons (pv 2) (pa_cons (pv 2) pa_nil)))))))))))))))))))), fun ds d hR => ?_⟩
  · obtain ⟨cs, s, h, rfl, rfl⟩ := h; rfl
  obtain ⟨cs, s, h, rfl, rfl⟩ := hR
  have hl : cs.length ≤ 100 := h.len
  have lab : (boxA s cs).length = (boxB s cs).length := by simp
  have lba := lab.symm
  have laj : (boxA s cs).length = (joinedF (boxA s cs) (boxB s cs)).length := by simp [joinedF]
  have lbj : (boxB s cs).length = (joinedF (boxA s cs) (boxB s cs)).length := by simp [joinedF]
  have okj := ok_joined h.oka h.okb
  have sp : ∀ {g : Co → List Int}, (List.range cs.length).map (fun i => eIs (g (cs.getD i Co.no))) = (cs.map g).map eIs := fun {g} => by rw [range_map (fun c => eIs (g c)), List.map_map]; rfl
  refine' run_seq (run_set (d := .list ((List.range cs.length).map fun i => .int ((i : Nat) : Int))) (ev_listRg (ev_is (ev_cb (ea_cons (a := .list ((cs.map Co.a).map eOI)) ?_ ea_nil) ca_lenL') (by rw [List.length_map, List.length_map])) (by omega)) ?_)
  · walk_at "go"
  refine' run_seq (run_asg (d := .tuple [eIss (cs.map Co.mine), eIss (cs.map Co.yours)]) (ev_tup (ea_cons ?_ (ea_cons ?_ ea_nil)) (Nat.le_of_ble_eq_true rfl)) (eg_tup rfl (egs_cons eg_name (egs_cons eg_name egs_nil))) ?_)
  · rw [show eIss (cs.map Co.mine) = .list ((List.range cs.length).map (fun i => eIs (Co.mine (cs.getD i Co.no)))) from congrArg PyData.list sp.symm]
    refine' el_d (el_map (List.range cs.length) (fun i => .int ((i : Nat) : Int)) _ (ei_list ?_) (by rw [List.length_range]; omega) rfl fun i hi => ⟨_, _, eg_name, rfl, ?_⟩)
    · walk_at "go"
    · have e := getD_get (d := Co.no) (List.mem_range.mp hi)
      refine' ev_call (ea_cons (ev_op (a := .list ((cs.map Co.a).map eOI)) (b := .int (i : Nat)) ?_ ?_ (op_ixL (nthmm e))) (ea_cons (ev_op (a := .list ((cs.map (Co.t s)).map eT)) (b := .int (i : Nat)) ?_ ?_ (op_ixL (nthmm e))) ea_nil)) (r__law_all_in (t := Co.t s (cs.getD i Co.no)) (h.tl _ (List.mem_of_getElem? e)))
      walk_at "go"
  · rw [show eIss (cs.map Co.yours) = .list ((List.range cs.length).map (fun i => eIs (Co.yours (cs.getD i Co.no)))) from congrArg PyData.list sp.symm]
    refine' el_d (el_map (List.range cs.length) (fun i => .int ((i : Nat) : Int)) _ (ei_list ?_) (by rw [List.length_range]; omega) rfl fun i hi => ⟨_, _, eg_name, rfl, ?_⟩)
    · walk_at "go"
    · have e := getD_get (d := Co.no) (List.mem_range.mp hi)
      refine' ev_call (ea_cons (ev_op (a := .list ((cs.map Co.b).map eOI)) (b := .int (i : Nat)) ?_ ?_ (op_ixL (nthmm e))) (ea_cons (ev_op (a := .list ((cs.map (Co.t s)).map eT)) (b := .int (i : Nat)) ?_ ?_ (op_ixL (nthmm e))) ea_nil)) (r__law_all_in (t := Co.t s (cs.getD i Co.no)) (h.tl _ (List.mem_of_getElem? e)))
      walk_at "go"
  refine' run_seq (run_set (d := eIss (cs.map Co.both)) ?_ ?_)
  · rw [show eIss (cs.map Co.both) = .list ((List.range cs.length).map (fun i => eIs (Co.both (cs.getD i Co.no)))) from congrArg PyData.list sp.symm]
    refine' el_d (el_map (List.range cs.length) (fun i => .int ((i : Nat) : Int)) _ (ei_list ?_) (by rw [List.length_range]; omega) rfl fun i hi => ⟨_, _, eg_name, rfl, ?_⟩)
    · walk_at "go"
    · have e := getD_get (d := Co.no) (List.mem_range.mp hi)
      have hm : (Co.mine (cs.getD i Co.no)).length ≤ 1000 := Nat.le_trans (List.length_filter_le _ _) (Nat.le_trans (h.tl _ (List.mem_of_getElem? e)) (by decide))
      refine' el_d (el_lc (Co.mine (cs.getD i Co.no)) PyData.int (fun v => decide (v ∈ Co.yours (cs.getD i Co.no))) PyData.int (ei_list (ev_op (a := eIss (cs.map Co.mine)) (b := .int (i : Nat)) ?_ ?_ (op_ixL (nthmm e)))) hm rfl fun v hv => ⟨_, _, eg_name, rfl, et_test (ev_op (a := .int v) (b := eIs (Co.yours (cs.getD i Co.no))) ?_ (ev_op (a := eIss (cs.map Co.yours)) (b := .int (i : Nat)) ?_ ?_ (op_ixL (nthmm e))) op_inI), fun _ => ?_⟩)
      walk_at "go"
  refine' run_seq (run_setM (el_lst ea_nil (Nat.zero_le _)) ?_)
  refine' run_seq (run_for (ei_list (ds := (List.range cs.length).map fun i => .int ((i : Nat) : Int)) ?_) (fun i Γ => ∃ u1 u2 u3 u4, Γ = [.dat (.list ((cs.map Co.a).map eOI)), .dat (.list ((cs.map Co.b).map eOI)), .dat (eB (boxA s cs)), .dat (eB (boxB s cs)), .dat (.list ((cs.map (Co.t s)).map eT)), .dat (.int s), .dat (.list ((List.range cs.length).map fun i => .int ((i : Nat) : Int))), .dat (eIss (cs.map Co.mine)), .dat (eIss (cs.map Co.yours)), .dat (eIss (cs.map Co.both)), .mu (((cs.take i).map Co.hull).map eIs), u1, u2, u3, u4, .non, .non, .non]) ⟨_, _, _, _, rfl⟩ (fun i d Γi ed hI => ?_) (fun Γn hI => ?_))
  · walk_at "go"
  · obtain ⟨u1, u2, u3, u4, rfl⟩ := hI
    obtain ⟨j, ej, rfl⟩ := map_at ed
    have hi : i < cs.length := by have := (List.getElem?_eq_some_iff.mp ej).1; simpa using this
    have ej : j = i := by rw [List.getElem?_range hi] at ej; exact (Option.some.inj ej).symm
    subst ej
    have e := getD_get (d := Co.no) hi
    have hc := List.mem_of_getElem? e
    have hm : (Co.mine (cs.getD j Co.no)).length ≤ 100 := Nat.le_trans (List.length_filter_le _ _) (h.tl _ hc)
    have hy : (Co.yours (cs.getD j Co.no)).length ≤ 100 := Nat.le_trans (List.length_filter_le _ _) (h.tl _ hc)
    refine ⟨_, _, eg_name, ?_⟩
    refine' run_seq (run_set (d := eIs (Co.mine (cs.getD j Co.no) ++ Co.yours (cs.getD j Co.no))) (ev_is (ev_op (ev_op (a := eIss (cs.map Co.mine)) (b := .int (j : Nat)) ?_ ?_ (op_ixL (nthmm e))) (ev_op (a := eIss (cs.map Co.yours)) (b := .int (j : Nat)) ?_ ?_ (op_ixL (nthmm e))) (op_catl (by rw [List.length_map, List.length_map]; omega))) (by rw [← List.map_append])) ?_)
    · walk_at "go"
    · walk_at "go"
    · walk_at "go"
    · walk_at "go"
    refine' run_seq (run_asg (d := .tuple [.int (Co.least (cs.getD j Co.no)), .int (Co.most (cs.getD j Co.no))]) (ev_tup (ea_cons (ev_cb (ea_cons (a := eIs (Co.mine (cs.getD j Co.no) ++ Co.yours (cs.getD j Co.no))) ?_ ea_nil) (ca_min (h.mn _ hc).1 (h.mn _ hc).2)) (ea_cons (ev_cb (ea_cons (a := eIs (Co.mine (cs.getD j Co.no) ++ Co.yours (cs.getD j Co.no))) ?_ ea_nil) (ca_max (h.mx _ hc).1 (h.mx _ hc).2)) ea_nil)) (Nat.le_of_ble_eq_true rfl)) (eg_tup rfl (egs_cons eg_name (egs_cons eg_name egs_nil))) ?_)
    · walk_at "go"
    · walk_at "go"
    have ev : EvD (tLc (iList K (tOp (rIxT K) (tOp (rIxL K) (tVar 4) (tVar 11)) (tC (.int 0)))) (gName 17) (tTest (tChain (rI0 fun i j => .bl (decide (i ≤ j))) (rI0 fun i j => .bl (decide (i ≤ j))) (tVar 13) (tVar 17) (tVar 14))) (tVar 17) [17]) [.dat (.list ((cs.map Co.a).map eOI)), .dat (.list ((cs.map Co.b).map eOI)), .dat (eB (boxA s cs)), .dat (eB (boxB s cs)), .dat (.list ((cs.map (Co.t s)).map eT)), .dat (.int s), .dat (.list ((List.range cs.length).map fun i => .int ((i : Nat) : Int))), .dat (eIss (cs.map Co.mine)), .dat (eIss (cs.map Co.yours)), .dat (eIss (cs.map Co.both)), .mu (((cs.take j).map Co.hull).map eIs), .dat (.int (j : Nat)), .dat (eIs (Co.mine (cs.getD j Co.no) ++ Co.yours (cs.getD j Co.no))), .dat (.int (Co.least (cs.getD j Co.no))), .dat (.int (Co.most (cs.getD j Co.no))), .non, .non, .non] (eIs (Co.hull (cs.getD j Co.no))) := by
      refine' el_d (el_lc (Co.T (cs.getD j Co.no)) PyData.int (fun v => decide (Co.least (cs.getD j Co.no) ≤ v) && decide (v ≤ Co.most (cs.getD j Co.no))) PyData.int (ei_list (ev_op (ev_op (a := .list ((cs.map (Co.t s)).map eT)) (b := .int (j : Nat)) ?_ ?_ (op_ixL (nthmm e))) ev_int (op_ixT rfl))) (by have := h.tl _ hc; omega) rfl fun v hv => ⟨_, _, eg_name, rfl, et_test (ev_chain (ev_var (d := .int _) rfl) (ev_var (d := .int v) rfl) op_ib (fun _ => ev_var (d := .int _) rfl) (fun _ => op_ib)), fun _ => ?_⟩)
      walk_at "go"
    have e2 : ((cs.take (j + 1)).map Co.hull).map eIs = ((cs.take j).map Co.hull).map eIs ++ [eIs (Co.hull (cs.getD j Co.no))] := by
      rw [List.take_add_one, e, List.map_append, List.map_append]; rfl
    refine' run_app (A := False) rfl (evs_d ev ?_) (by rw [List.length_map, List.length_map, List.length_take]; omega)
    rw [e2]
    exact ⟨_, _, _, _, rfl⟩
  · obtain ⟨u1, u2, u3, u4, rfl⟩ := hI
    rw [List.length_map, List.length_range, List.take_length]
    refine run_freeze (j := 10) rfl ?_
    have rc := fun Γ (h1 : EvA (tCons (tVar 2) (tCons (tVar 3) tNil)) Γ [eB (boxA s cs), eB (boxB s cs)]) => (ev_call (E := E0) h1 (r_common_box lab h.oka h.okb))
    have rj := fun Γ (h1 : EvA (tCons (tVar 2) (tCons (tVar 3) tNil)) Γ [eB (boxA s cs), eB (boxB s cs)]) => (ev_call (E := E0) h1 (r_joined_box lab h.oka h.okb))
    refine' run_seq (run_if0 (et_or0 (et_not (c := true) (et_test (ev_call (ea_cons (rc _ ?_) ?_) (r__law_box_right (due := cs.map Co.both) (by rw [List.length_map]; exact hl) h.hs h.cb)))) (et_is (y := false) (et_test (ev_op (ev_calK (ea_cons (ev_var (d := eB (boxA s cs)) rfl) (ea_cons (ev_var (d := eB (boxB s cs)) rfl) ea_nil)) (r_common_box lba h.okb h.oka)) (rc _ ?_) op_neOB)) (by rw [h.cbs]; simp))) rfl (run_next ?_))
    · walk_at "go"
    · walk_at "go"
    · walk_at "go"
    refine' run_seq (run_if0 (et_or0 (et_not (c := true) (et_test (ev_call (ea_cons (rj _ ?_) ?_) (r__law_box_right (ob := some _) (due := cs.map Co.hull) (by rw [List.length_map]; exact hl) h.hs h.jb)))) (et_is (y := false) (et_test (ev_op (ev_calK (ea_cons (ev_var (d := eB (boxA s cs)) rfl) (ea_cons (ev_var (d := eB (boxB s cs)) rfl) ea_nil)) (r_joined_box lba h.okb h.oka)) (rj _ ?_) op_neB)) (by rw [h.jbs]; simp))) rfl (run_next ?_))
    · walk_at "go"
    · walk_at "go"
    · walk_at "go"
    refine' run_seq (run_if0 (et_or0 (et_test (ev_op (ev_cb (ea_cons (ev_call ?_ (r_within lab h.oka h.okb)) ea_nil) ca_reprB) (ev_cb (ea_cons (ev_op (a := eIss (cs.map Co.both)) (b := eIss (cs.map Co.mine)) ?_ ?_ od_eqIss) ea_nil) ca_reprB) (od_neRep h.w1)))
      (et_test (ev_op (ev_cb (ea_cons (ev_calK (ea_cons (ev_var (d := eB (boxA s cs)) rfl) (ea_cons (ev_var (d := eB (boxB s cs)) rfl) ea_nil)) (r_within lba h.okb h.oka)) ea_nil) ca_reprB) (ev_cb (ea_cons (ev_op (a := eIss (cs.map Co.both)) (b := eIss (cs.map Co.yours)) ?_ ?_ od_eqIss) ea_nil) ca_reprB) (od_neRep h.w2)))) rfl (run_next ?_))
    · walk_at "go"
    · walk_at "go"
    · walk_at "go"
    · walk_at "go"
    · walk_at "go"
    refine' run_seq (run_par (A := False) (evsa_a (ea_cons (rj _ ?_) (ea_cons (rc _ ?_) ea_nil)) ⟨_, _, rfl, ?_⟩))
    · walk_at "go"
    · walk_at "go"
    refine' run_seq (run_if0 (et_or0 (et_not (c := true) (et_test (ev_is (ev_call ?_ (r_within laj h.oka okj)) (congrArg PyData.bool h.w3)))) (et_or0 (et_not (c := true) (et_test (ev_is (ev_call ?_ (r_within lbj h.okb okj)) (congrArg PyData.bool h.w4)))) (et_is (y := false) (et_test (ev_op (ev_call ?_ (r_within laj.symm okj h.oka)) (ev_op (a := eIss (cs.map Co.hull)) (b := eIss (cs.map Co.mine)) ?_ ?_ od_eqIss) od_neB)) (by rw [h.w5]; simp)))) rfl (run_next ?_))
    · walk_at "go"
    · walk_at "go"
    · walk_at "go"
    · walk_at "go"
    · walk_at "go"
    cases hc : commonF (boxA s cs) (boxB s cs) with
    | none => refine' run_ret (ev_or1 ?_) ?_; walk_at "go"
    | some cb =>
      have hw := h.w6 cb hc
      have hcb : cb = sharpB (boxA s cs) (boxB s cs) := by
        unfold commonF at hc
        split at hc
        · cases hc
        · exact (Option.some.inj hc).symm
      have okc : BOk cb := hcb ▸ ok_sharpB h.oka h.okb
      have lca : cb.length = (boxA s cs).length := by rw [hcb]; simp [sharpB]
      refine' run_ret (ev_or0 ?_ (ev_and1 (ev_is (ev_call ?_ (r_within lca okc h.oka)) (congrArg PyData.bool hw.1)) (ev_and1 (ev_is (ev_call ?_ (r_within (lca.trans lab) okc h.okb)) (congrArg PyData.bool hw.2.1)) (ev_is (ev_call ?_ (r_within rfl h.oka h.oka)) (congrArg PyData.bool hw.2.2))))) ?_
      walk_at "go"
end
end Bx
namespace Bx
open PySem PySem.Spec L2 PyProof.Rows
def dueL (own : List OI) (ts : List (List Int × List Fr)) : List (List Int) := (own.zip ts).map fun q => q.2.1.filter (hasI q.1)
structure Cut (s : Int) (own : List OI) (ts : List (List Int × List Fr)) (i : Nat) (v : Int) (d : List Int) : Prop where
  hs : SOk s
  len : own.length ≤ 100
  tsl : ts.length = own.length
  tl : ∀ t ∈ ts, t.1.length ≤ 100
  okb : BOk (own.map (frR s))
  hi : i < own.length
  ov : FOk (fr s v)
  hd : (dueL own ts)[i]? = some d
  b1 : BoxRight s (belowF (own.map (frR s)) i (fr s v)) ts ((dueL own ts).set i (d.filter fun x => decide (x ≤ v)))
  b2 : BoxRight s (overF (own.map (frR s)) i (fr s v)) ts ((dueL own ts).set i (d.filter fun x => decide (x ≥ v)))
  b3 : BoxRight s (some ((own.map (frR s)).set i (some (fr s v), some (fr s v)))) ts ((dueL own ts).set i [v])
theorem od_neHalf {K : PySem.W.Frag} {q : Option (List Rf) × Option (List Rf)} : OpD (rNeD K) (eHalf q) (eHalf q) (.bool false) := by
  have sh : Shp 4 (eHalf q) := ⟨by show ((eOB q.1).canLay0 && ((eOB q.2).canLay0 && true)) = true; rw [(shp_OB q.1).1, (shp_OB q.2).1]; rfl, by
    show max (eOB q.1).depth (max (eOB q.2).depth 0) + 1 ≤ 4
    have h1 := (shp_OB q.1).2
    have h2 := (shp_OB q.2).2
    omega⟩
  have h := op_ned (K := K) (sh.ok (by decide)) (sh.ok (by decide))
  have e : PyData.eqv (eHalf q) (eHalf q) = true := by
    show (PyData.eqv (eOB q.1) (eOB q.1) && (PyData.eqv (eOB q.2) (eOB q.2) && true)) = true
    rw [eqv_OB, eqv_OB, decide_eq_true rfl, decide_eq_true rfl]; rfl
  rw [e] at h
  exact h
local macro_rules | `(tactic| walk_at "ev") => `(tactic| repeat' (first
  | with_reducible exact ev_int
  | ((with_reducible apply ev_var); exact rfl)
  | with_reducible exact ev_non
  | with_reducible exact ev_bl
  | with_reducible exact ev_str
  | with_reducible exact ea_nil
  | with_reducible apply ea_cons
  | with_reducible apply et_test
  | with_reducible apply et_B
  | with_reducible exact et_yes
  | with_reducible apply ev_op
  | with_reducible exact op_ii
  | with_reducible exact op_ib
  | ((with_reducible apply op_ixT); exact rfl)
  | ((with_reducible apply op_ixL); exact rfl)
  | with_reducible exact op_isN'
  | with_reducible exact op_notN'
  | ((with_reducible show OpD (fun x y H Q => y = _ ∧ _) _ _ _); first | exact op_isN' | exact op_notN')
  | with_reducible refine' ev_tup ?_ (Nat.le_of_ble_eq_true rfl)
  | with_reducible refine' ev_lst ?_ (Nat.le_of_ble_eq_true rfl)
  | with_reducible apply ev_call
  | with_reducible apply ev_calK
  | with_reducible apply ev_un
  | with_reducible exact un_i
  | with_reducible apply et_not
  | with_reducible apply ev_not
  | ((with_reducible apply op_iC); first | assumption | exact FOk.mul (by assumption) _)
  | with_reducible apply ev_cb
  | with_reducible exact ca_lenL'
  | with_reducible exact ca_lenT'
  | with_reducible exact ca_int
  | with_reducible exact ca_abs
  | with_reducible exact ca_tuple'
  | ((with_reducible apply ev_and))
  | ((with_reducible refine fun (hh : _ = _) => ?_); first | cases hh | skip)))
local macro_rules | `(tactic| walk_at "go") => `(tactic| ((all_goals (walk_at "ev")); (all_goals (try exact rfl))))
section
variable {P : Program} {w : World} {K : PySem.W.Frag} {mg : PySem.Str → Option Value} {base : Heap} {f : Addr} {fd : FuncData}
abbrev s__law_fit : Stmt := topS 55
abbrev N__law_fit : List PySem.Str := ["_law_values", "_law_scale", "_law_value"]
abbrev p__law_fit : List PySem.Str := ["_law_values", "_law_scale"]
theorem sc__law_fit : FnScope N__law_fit p__law_fit (defScope s__law_fit) := ⟨rfl, rfl, rfl, by decide +kernel, rfl, by decide +kernel, by decide +kernel⟩
def fitF (s : Int) (vs : List Int) : List Int := vs.filter (fun v => decide ((if (fr s v).1 < 0 then -(fr s v).1 else (fr s v).1) ≤ 1000000000)) ++ [0]
def R__law_fit (ds : List PyData) (d : PyData) : Prop := ∃ (vs : List Int) (s : Int), vs.length ≤ 100 ∧ SOk s ∧ ds = [eIs vs, .int s] ∧ d = eIs (fitF s vs)
theorem r__law_fit {vs : List Int} {s : Int} (h : vs.length ≤ 100) (hs : SOk s) : R__law_fit [eIs vs, .int s] (eIs (fitF s vs)) := ⟨vs, s, h, hs, rfl, rfl⟩
theorem ok__law_fit (F : Fun K "_law_fit" "_law_fit" s__law_fit f fd) (B : Blt mg) (c__law_lowest : Cal P w K mg base 1 "_law_lowest" p__law_lowest (spD R__law_lowest)) : FnOk P w K mg base CX0 2 f fd p__law_fit (spD R__law_fit) := by
  have nd := sc__law_fit.nd
  refine fun_pure F sc__law_fit (fun _ _ h => ?_) fun cdv A outer s H E hr => ⟨_, (pss_one (ps_ret (pe_op op_cat (pe_lc (own := [("_law_value", 2)]) rfl nd (ki_list K rfl (pv 0)) (blkOk_by (by kernel_rfl)) (fun _ _ _ _ _ => (pg_name (i := 2) nd rfl (by first | exact .inl rfl | exact .inr rfl))) (fun _ _ _ _ _ => (pts_one (pt_cmpR op_le (pe_callB call_abs rfl B.abs (by decide +kernel) (pa_cons (pe_ix (k_ixT K rfl) (pe_calD c__law_lowest hr (by decide) rfl (pa_cons (pv 2) (pa_cons (pv 1) pa_nil))) pe_int (fun _ _ => rfl)) pa_nil)) (pe_op op_pow pe_int pe_int) (nomark _)))) (fun _ _ _ _ _ => (pv 2))) (pe_lst (pa_cons pe_int pa_nil))))), fun ds d hR => ?_⟩
  · obtain ⟨vs, s, hl, hs, rfl, rfl⟩ := h; rfl
  obtain ⟨vs, s, hl, hs, rfl, rfl⟩ := hR
  refine' run_ret (d := eIs (fitF s vs)) (ev_is (ev_op (el_d (el_lc vs PyData.int (fun v => decide ((if (fr s v).1 < 0 then -(fr s v).1 else (fr s v).1) ≤ 1000000000)) PyData.int (ei_list ?_) (by omega) rfl fun v hv => ⟨_, _, eg_name, rfl, et_test (ev_op (ev_cb (ea_cons (ev_op (ev_call ?_ (r__law_lowest hs.1 hs.2)) ev_int (op_ixT rfl)) ea_nil) ca_abs) (ev_is (d := .int 1000000000) (ev_op ev_int ev_int (op_iC ⟨by decide, by decide, by decide⟩)) rfl) op_ib), fun _ => ?_⟩)) (ev_lst (ea_cons ev_int ea_nil) (Nat.le_of_ble_eq_true rfl)) (op_catl (by rw [List.length_map]; have := List.length_filter_le (fun v => decide ((if (fr s v).1 < 0 then -(fr s v).1 else (fr s v).1) ≤ 1000000000)) vs; show _ + 1 ≤ _; omega))) ?_) ?_
  · walk_at "go"
  · walk_at "go"
  · walk_at "go"
  · show PyData.list _ = .list ((fitF s vs).map PyData.int)
    unfold fitF
    rw [List.map_append]
    rfl
  · rfl
abbrev s__law_cut_right : Stmt := topS 54
abbrev N__law_cut_right : List PySem.Str := ["_law_own", "_law_box", "_law_tests_here", "_law_scale", "_law_at", "_law_value", "_law_part", "_law_due", "_law_here", "_law_two", "_law_place", "_law_one"]
abbrev p__law_cut_right : List PySem.Str := ["_law_own", "_law_box", "_law_tests_here", "_law_scale", "_law_at", "_law_value"]
theorem sc__law_cut_right : FnScope N__law_cut_right p__law_cut_right (defScope s__law_cut_right) := ⟨rfl, rfl, rfl, by decide +kernel, rfl, by decide +kernel, by decide +kernel⟩
def R__law_cut_right (ds : List PyData) (d : PyData) : Prop := ∃ (own : List OI) (ts : List (List Int × List Fr)) (s : Int) (i : Nat) (v : Int) (dd : List Int), Cut s own ts i v dd ∧ ds = [.list (own.map eOI), eB (own.map (frR s)), .list (ts.map eT), .int s, .int (i : Nat), .int v] ∧ d = .bool true
theorem r__law_cut_right {own : List OI} {ts : List (List Int × List Fr)} {s : Int} {i : Nat} {v : Int} {dd : List Int} (h : Cut s own ts i v dd) : R__law_cut_right [.list (own.map eOI), eB (own.map (frR s)), .list (ts.map eT), .int s, .int (i : Nat), .int v] (.bool true) := ⟨own, ts, s, i, v, dd, h, rfl, rfl⟩
theorem ok__law_cut_right (F : Fun K "_law_cut_right" "_law_cut_right" s__law_cut_right f fd) (B : Blt mg) (c__law_all_in : Cal P w K mg base 2 "_law_all_in" p__law_all_in (spD R__law_all_in)) (c__law_box_right : Cal P w K mg base 2 "_law_box_right" p__law_box_right (spD R__law_box_right)) (c__law_lowest : Cal P w K mg base 1 "_law_lowest" p__law_lowest (spD R__law_lowest)) (c_halves : Cal P w K mg base 3 "halves" p_halves (spD R_halves)) (c_placed : Cal P w K mg base 2 "placed" p_placed (spD R_placed)) : FnOk P w K mg base CX0 4 f fd p__law_cut_right (spD R__law_cut_right) := by
  have nd := sc__law_cut_right.nd
  refine fun_pure F sc__law_cut_right (fun _ _ h => ?_) fun cdv A outer s H E hr => ⟨_, (pss_cons (ps_set (i := 6) nd rfl (by first | exact .inl rfl | exact .inr rfl) (pe_calD c__law_lowest hr (by decide) rfl (pa_cons (pv 5) (pa_cons (pv 3) pa_nil))))
      (pss_cons (ps_setLc (i := 7) (own := [("_law_place", 10)]) rfl nd rfl rfl (sw_true rfl rfl rfl (by decide +kernel)) (pi_range1 rfl B.range (pa_cons (pe_callB (k_len K rfl) rfl B.len (by decide +kernel) (pa_cons (pv 0) pa_nil)) pa_nil)) (blkOk_by (by kernel_rfl)) (fun _ _ _ _ _ => (pg_name (i := 10) nd rfl (by first | exact .inl rfl | exact .inr rfl))) (fun _ _ _ _ _ => pts_nil) (fun _ _ _ _ _ => (pe_calD c__law_all_in hr (by decide) rfl (pa_cons (pe_ix (k_ixL K rfl) (pv 0) (pv 10) (fun _ _ => rfl)) (pa_cons (pe_ix (k_ixL K rfl) (pv 2) (pv 10) (fun _ _ => rfl)) pa_nil)))))
      (pss_cons (ps_set (i := 8) nd rfl (by first | exact .inl rfl | exact .inr rfl) (pe_ix (k_ixL K rfl) (pv 7) (pv 4) (fun _ _ => rfl)))
      (pss_cons (ps_set (i := 9) nd rfl (by first | exact .inl rfl | exact .inr rfl) (pe_calD c_halves hr (by decide) rfl (pa_cons (pv 1) (pa_cons (pv 4) (pa_cons (pv 6) pa_nil)))))
      (pss_cons (ps_if (PW.pt (pw_or (pt_not (pt_val (pe_callB (k_isi K rfl) rfl B.isinstance (by decide +kernel) (pa_cons (pv 9) (pa_cons (pe_bltn (v := .ty "tuple") rfl B.tuple (by decide +kernel) rfl) pa_nil))))) (pw_or (pt_cmpR (k_ne K rfl hr.units) (pe_callB (k_len K rfl) rfl B.len (by decide +kernel) (pa_cons (pv 9) pa_nil)) pe_int (nomark _)) (pw_or1 (pt_cmpR (k_ne K rfl hr.units) (pe_calK c_halves hr (by decide) rfl (pk_cons (pv 6) (pk_cons (pv 4) (pk_cons (pv 1) pk_nil)))) (pv 9) (nomark _)))))) (pss_one (ps_ret pe_bl)) pss_nil)
      (pss_cons (ps_asg (pe_lc (own := [("_law_one", 11)]) rfl nd (ki_list K rfl (pv 8)) (blkOk_by (by kernel_rfl)) (fun _ _ _ _ _ => (pg_name (i := 11) nd rfl (by first | exact .inl rfl | exact .inr rfl))) (fun _ _ _ _ _ => (pts_one (pt_cmpR op_le (pv 11) (pv 5) (nomark _)))) (fun _ _ _ _ _ => (pv 11))) (pg_sub (pv 7) (pv 4) set_list))
      (pss_cons (ps_if (pt_not (pt_val (pe_calD c__law_box_right hr (by decide) rfl (pa_cons (pe_ix (k_ixT K rfl) (pv 9) pe_int (fun _ _ => rfl)) (pa_cons (pv 2) (pa_cons (pv 7) (pa_cons (pv 3) pa_nil))))))) (pss_one (ps_ret pe_bl)) pss_nil)
      (pss_cons (ps_asg (pe_lc (own := [("_law_one", 11)]) rfl nd (ki_list K rfl (pv 8)) (blkOk_by (by kernel_rfl)) (fun _ _ _ _ _ => (pg_name (i := 11) nd rfl (by first | exact .inl rfl | exact .inr rfl))) (fun _ _ _ _ _ => (pts_one (pt_cmpR op_ge (pv 11) (pv 5) (nomark _)))) (fun _ _ _ _ _ => (pv 11))) (pg_sub (pv 7) (pv 4) set_list))
      (pss_cons (ps_if (pt_not (pt_val (pe_calD c__law_box_right hr (by decide) rfl (pa_cons (pe_ix (k_ixT K rfl) (pv 9) pe_int (fun _ _ => rfl)) (pa_cons (pv 2) (pa_cons (pv 7) (pa_cons (pv 3) pa_nil))))))) (pss_one (ps_ret pe_bl)) pss_nil)
      (pss_cons (ps_asg (pe_lst (pa_cons (pv 5) pa_nil)) (pg_sub (pv 7) (pv 4) set_list))
      (pss_one (ps_ret (pe_and (pe_calD c__law_box_right hr (by decide) rfl (pa_cons (pe_calD c_placed hr (by decide) rfl (pa_cons (pv 1) (pa_cons (pv 4) (pa_cons (pv 6) pa_nil)))) (pa_cons (pv 2) (pa_cons (pv 7) (pa_cons (pv 3) pa_nil))))) (pe_one (pe_cmpR (k_eq K rfl hr.units) (pe_calK c_placed hr (by decide) rfl (pk_cons (pv 6) (pk_cons (pv 4) (pk_cons (pv 1) pk_nil)))) (pe_calD c_placed hr (by decide) rfl (pa_cons (pv 1) (pa_cons (pv 4) (pa_cons (pv 6) pa_nil)))) (nomark _)))))))))))))))), fun ds d hR => ?_⟩
  · obtain ⟨own, ts, s, i, v, dd, h, rfl, rfl⟩ := h; rfl
  obtain ⟨own, ts, s, i, v, dd, h, rfl, rfl⟩ := hR
  have hl := h.len
  have lz : (own.zip ts).length = own.length := by rw [List.length_zip, h.tsl, Nat.min_self]
  have ld : (dueL own ts).length = own.length := by unfold dueL; rw [List.length_map, lz]
  have hib : i < (own.map (frR s)).length := by rw [List.length_map]; exact h.hi
  have hdl : dd.length ≤ 100 := by
    have e := h.hd
    unfold dueL at e
    rw [List.getElem?_map] at e
    cases q : (own.zip ts)[i]? with
    | none => rw [q] at e; cases e
    | some z =>
      rw [q] at e
      obtain rfl := Option.some.inj e
      exact Nat.le_trans (List.length_filter_le _ _) (h.tl _ (List.of_mem_zip (a := z.1) (b := z.2) (List.mem_of_getElem? q)).2)
  refine' run_seq (run_set (ev_call ?_ (r__law_lowest (o := v) h.hs.1 h.hs.2)) ?_)
  · walk_at "go"
  refine' run_seq (run_setM (ds := (dueL own ts).map eIs) ?_ ?_)
  · have e1 : (dueL own ts).map eIs = (List.range own.length).map (fun j => eIs (((own.zip ts).getD j ((none, none), ([], []))).2.1.filter (hasI ((own.zip ts).getD j ((none, none), ([], []))).1))) := by
      rw [← lz, range_map (fun q : OI × (List Int × List Fr) => eIs (q.2.1.filter (hasI q.1)))]
      unfold dueL
      rw [List.map_map]; rfl
    rw [e1]
    refine' el_map (List.range own.length) (fun i => .int ((i : Nat) : Int)) _ (ei_range1 (n := (own.length : Int)) (ea_cons (ev_is (ev_cb (ea_cons (a := .list (own.map eOI)) ?_ ea_nil) ca_lenL') (by rw [List.length_map])) ea_nil) (by omega) (by omega)) (by rw [List.length_range]; omega) rfl fun j hj => ⟨_, _, eg_name, rfl, ?_⟩
    · walk_at "go"
    · have e := getD_get (xs := own.zip ts) (d := ((none, none), ([], []))) (i := j) (by rw [lz]; exact List.mem_range.mp hj)
      have e' := List.getElem?_zip_eq_some.mp e
      refine' ev_call (ea_cons (ev_op (a := .list (own.map eOI)) (b := .int (j : Nat)) ?_ ?_ (op_ixL (nthm e'.1))) (ea_cons (ev_op (a := .list (ts.map eT)) (b := .int (j : Nat)) ?_ ?_ (op_ixL (nthm e'.2))) ea_nil)) (r__law_all_in (h.tl _ (List.mem_of_getElem? e'.2)))
      walk_at "go"
  refine' run_seq (run_set (d := eIs dd) (ev_ixM (j := 7) (i := (i : Int)) rfl ?_ (nthm h.hd)) ?_)
  · walk_at "go"
  refine' run_seq (run_set (ev_call ?_ (r_halves h.okb hib h.ov)) ?_)
  · walk_at "go"
  have ix0 : ∀ {Γ : Ge} {n : Nat}, Γ[n]? = some (.dat (eHalf (halvesF (own.map (frR s)) i (fr s v)))) → EvD (tOp (rIxT K) (tVar n) (tC (.int 0))) Γ (eOB (belowF (own.map (frR s)) i (fr s v))) := fun e => ev_op (ev_var e) ev_int (op_ixT rfl)
  have ix1 : ∀ {Γ : Ge} {n : Nat}, Γ[n]? = some (.dat (eHalf (halvesF (own.map (frR s)) i (fr s v)))) → EvD (tOp (rIxT K) (tVar n) (tC (.int 1))) Γ (eOB (overF (own.map (frR s)) i (fr s v))) := fun e => ev_op (ev_var e) ev_int (op_ixT rfl)
  refine' run_seq (run_if0 (et_or0 (et_not (c := true) (et_test (ev_isi (d := eHalf (halvesF (own.map (frR s)) i (fr s v))) (ev_var rfl) rfl))) (et_or0 (et_is (y := false) (et_test (ev_op (ev_cb (ea_cons (a := eHalf (halvesF (own.map (frR s)) i (fr s v))) (ev_var rfl) ea_nil) ca_lenT') ev_int od_neI)) rfl) (et_test (ev_op (ev_calK (es := [eF (fr s v), .int (i : Nat), eB (own.map (frR s))]) ?_ (r_halves h.okb hib h.ov)) (ev_var rfl) od_neHalf)))) rfl (run_next ?_))
  · walk_at "go"
  have cutev : ∀ {Γ : Ge} {f : Int → Int → Bool}, Γ[8]? = some (.dat (eIs dd)) → Γ[5]? = some (.dat (.int v)) → Γ[11]? = some .non → EvD (tLc (iList K (tVar 8)) (gName 11) (tTest (tOp (rI0 fun i j => .bl (f i j)) (tVar 11) (tVar 5))) (tVar 11) [11]) Γ (eIs (dd.filter fun x => f x v)) := fun {Γ f} g8 g5 g11 => by
    have l11 : 11 < Γ.length := (List.getElem?_eq_some_iff.mp g11).1
    refine' el_d (el_lc dd PyData.int (fun x => f x v) PyData.int (ei_list (ev_var g8)) (by omega) (by show (plainAt Γ 11 && true) = true; unfold plainAt; rw [g11]; rfl) fun y hy => ⟨_, _, eg_name, rfl, et_test (ev_op (ev_var (d := .int y) ?_) (ev_var (d := .int v) ?_) op_ib), fun _ => ev_var ?_⟩)
    · show (List.set (Γ.set 11 .non) 11 _)[11]? = _; rw [List.getElem?_set_self (by rw [List.length_set]; exact l11)]
    · show (List.set (Γ.set 11 .non) 11 _)[5]? = _; rw [List.getElem?_set_ne (by decide), List.getElem?_set_ne (by decide)]; exact g5
    · show (List.set (Γ.set 11 .non) 11 _)[11]? = _; rw [List.getElem?_set_self (by rw [List.length_set]; exact l11)]
  have ss : ∀ a b : List Int, ((dueL own ts).set i a).set i b = (dueL own ts).set i b := fun a b => List.set_set ..
  have hld : i < ((dueL own ts).map eIs).length := by rw [List.length_map, ld]; exact h.hi
  refine' run_seq (run_setAt (A := False) (j := 7) (i := i) rfl (evs_d (cutev rfl rfl rfl) ?_) ?_ hld)
  rotate_left
  · walk_at "go"
  rw [← List.map_set]
  refine' run_seq (run_if0 (et_not (c := true) (et_test (ev_freeze (j := 7) rfl (ev_call (ea_cons (ix0 rfl) (ea_cons ?_ (ea_cons ?_ (ea_cons ?_ ea_nil)))) (r__law_box_right (by rw [List.length_set, ld]; exact hl) h.hs h.b1))))) rfl (run_next ?_))
  · walk_at "go"
  · walk_at "go"
  · walk_at "go"
  refine' run_seq (run_setAt (A := False) (j := 7) (i := i) rfl (evs_d (cutev rfl rfl rfl) ?_) ?_ (by simp only [List.length_map, List.length_set, ld]; exact h.hi))
  rotate_left
  · walk_at "go"
  rw [← List.map_set, ss]
  refine' run_seq (run_if0 (et_not (c := true) (et_test (ev_freeze (j := 7) rfl (ev_call (ea_cons (ix1 rfl) (ea_cons ?_ (ea_cons ?_ (ea_cons ?_ ea_nil)))) (r__law_box_right (by rw [List.length_set, ld]; exact hl) h.hs h.b2))))) rfl (run_next ?_))
  · walk_at "go"
  · walk_at "go"
  · walk_at "go"
  refine' run_seq (run_setAt (A := False) (j := 7) (i := i) rfl (evs_d (d := eIs [v]) (ev_lst (ea_cons (ev_var rfl) ea_nil) (Nat.le_of_ble_eq_true rfl)) ?_) ?_ (by simp only [List.length_map, List.length_set, ld]; exact h.hi))
  rotate_left
  · walk_at "go"
  rw [← List.map_set, ss]
  refine run_freeze (j := 7) rfl ?_
  refine' run_ret (ev_and1 (ev_call (ea_cons (ev_call ?_ (r_placed h.okb.1 hib)) (ea_cons ?_ (ea_cons ?_ (ea_cons ?_ ea_nil)))) (r__law_box_right (ob := some _) (by rw [List.length_set, ld]; exact hl) h.hs h.b3)) (ev_is (ev_op (ev_calK (es := [eF (fr s v), .int (i : Nat), eB (own.map (frR s))]) ?_ (r_placed h.okb.1 hib)) (ev_call ?_ (r_placed h.okb.1 hib)) op_eqB) (congrArg PyData.bool (decide_eq_true rfl)))) ?_
  walk_at "go"
end
end Bx
namespace Bx
open PySem PySem.Spec L2 PyProof.Rows
section
variable {P : Program} {w : World} {K : PySem.W.Frag} {mg : PySem.Str → Option Value} {base : Heap}
theorem fun_stateG {x qual : PySem.Str} {st : Stmt} {f : Addr} {fd : FuncData} {N ps : List PySem.Str} {k : Nat} {R : List PyData → PyData → Prop} {C : List PyData → Prop} (F : Fun K x qual st f fd) (S : FnScope N ps (defScope st)) (len : ∀ ds, C ds → ds.length + 1 = ps.length)
    (body : ∀ (cdv : Value) (A : Around) (outer : List PySem.Env) (s : Shared) (H : Hp) (E : XK), (A.deeper (envOfC qual (defScope st) s.heap.objs.size f cdv)).guards = some [] → Room k (A.deeper (envOfC qual (defScope st) s.heap.objs.size f cdv)) →
      ∃ t, PSs (cxOf CX0 P w K mg base N qual (defScope st) f cdv A outer s H E).nox (defBody st) t ∧ ∀ a c ds, C ds → Run t (startG N.length (.hp a c :: ds.map Sl.dat)) { rt := fun Γ d => Γ[0]? = some (.hp a c) ∧ R ds d }) :
    FnG P w K mg base (k + 1) f fd ps (spS R C) := by
  have hp : ps.length ≤ N.length := by have := congrArg List.length S.pre; rw [List.length_take] at this; omega
  refine fnG_of F S (fun vs H Q E ⟨a, c, us, k', ds, e, s, ha, r, hr, q⟩ => by rw [e, List.length_cons, r.length]; exact len ds hr) fun cdv A outer s H vs Q E hg hr ⟨a, c, us, k', ds, e, s', ha, r, hC, q⟩ => ?_
  subst e
  obtain ⟨t, ht, hb⟩ := body cdv A outer s H E hg hr
  refine ⟨t, ht, ?_⟩
  have ho : HeadOk k' H (.ref a :: us) (.hp a c :: ds.map Sl.dat) := fun i s e => by
    cases i with
    | zero => cases e; exact ⟨_, rfl, rfl, ha⟩
    | succ i => exact head_dat (h := H) r i s (by simpa using e)
  have no : ∀ (i : Nat) s v p, (ds.map Sl.dat)[i]? = some s → ¬ Owns s v p := fun i s v p e w => by
    rw [List.getElem?_map] at e
    cases q : ds[i]? with
    | none => rw [q] at e; cases e
    | some d => rw [q] at e; cases e; exact w
  refine hb a c ds hC (fun p => p = a ∨ p = c) k' H k' H (L2.start N (.ref a :: us)) (.refl s') (fun i s v e1 e2 => ?_) (start_env (by rw [List.length_cons, List.length_cons, List.length_map, r.length]) (by rw [List.length_cons, List.length_map, len ds hC]; exact hp) ho fun i j s t v u ij e1 e2 _ _ p w1 w2 => ?_)
    { nx := fun _ H' => Q .non H', rt := Q } ⟨fun _ _ _ _ z => z.elim, fun Γ d' v k2 h2 σ z l _ E rv => ?_, fun _ _ _ _ z => z.elim, fun _ _ _ _ z => z.elim⟩
  · unfold startG at e1
    cases i with
    | zero => cases e1; exact ⟨.inl rfl, .inr rfl⟩
    | succ i =>
      have e1 : (ds.map Sl.dat ++ List.replicate (N.length - (ds.map Sl.dat).length.succ) Sl.non)[i]? = some s := by simpa using e1
      by_cases hi : i < (ds.map Sl.dat).length
      · rw [List.getElem?_append_left hi, List.getElem?_map] at e1
        cases q : ds[i]? with
        | none => rw [q] at e1; cases e1
        | some d => rw [q] at e1; cases e1; trivial
      · rw [List.getElem?_append_right (by omega), List.getElem?_replicate] at e1
        split at e1
        · cases e1; trivial
        · cases e1
  · cases i with
    | succ i => exact no i s _ p (by simpa using e1) w1
    | zero =>
      cases j with
      | zero => exact ij rfl
      | succ j => exact no j t _ p (by simpa using e2) w2
  · obtain ⟨v', _, _, hat⟩ := E.ok 0 _ z.1
    exact q v d' k2 h2 l hat rv z.2
structure CalG (P : Program) (w : World) (K : PySem.W.Frag) (mg : PySem.Str → Option Value) (base : Heap) (k : Nat) (x : PySem.Str) (ps : List PySem.Str) (sp : Sp) : Prop where
  ex : ∃ f fd, FnG P w K mg base k f fd ps sp ∧ mg x = some (.ref f) ∧ PySem.W.keepIn K (.ref f) = true ∧ L2.Binds K fd ps []
theorem FnG.mono {k j : Nat} {f : Addr} {fd : FuncData} {ps : List PySem.Str} {sp : Sp} (F : FnG P w K mg base k f fd ps sp) (h : k ≤ j) : FnG P w K mg base j f fd ps sp :=
  ⟨F.len, fun A outer s H args us vs Q E g hr => F.run A outer s H args us vs Q E g (hr.mono h)⟩
end
section
variable {X : Cx} {k j : Nat} {x : PySem.Str} {ps : List PySem.Str} {sp : Sp} {p pos : PySem.Pos} {e : Expr} {es : List Expr} {t tk : TA} {kws : List Keyword}
theorem pe_calG (c : CalG X.prog X.w X.K X.mg X.base k x ps sp) (gu : X.A.guards = some []) (hr : Room j X.A) (hk : k ≤ j) (hg : Gl X x) (ha : PA X (e :: es) t) (hdb : (x == ("__debug__" : PySem.Str)) = false := by decide)
    (he : starEach (e :: es) X.env = (false, eval e X.env) :: starEach es X.env := by rfl) (hpl : (backTo pos (starEach es X.env)).any (·.1) = false := by rfl) : PE X (.Call (.Name x p) (e :: es) [] pos) (tCall sp [] E0 t) := by
  obtain ⟨f, fd, F, m, kp, b⟩ := c.ex
  exact pe_callG (F.mono hk) gu hr hg m kp b ha hdb he hpl
end
theorem od_nePt {K : PySem.W.Frag} {a b : List Fr} : OpD (rNeD K) (ePt a) (ePt b) (.bool (!decide (a = b))) := by
  have h := op_ned (K := K) ((shp_Pt a).ok (by decide)) ((shp_Pt b).ok (by decide))
  rw [eqv_tuple eqv_F] at h
  exact h
def evE (i : Nat) : Fr := (((i / 2 : Nat) : Int), ((i % 2 : Nat) : Int))
def sideO (r : OI) (s : Nat) : Option Int := if s = 0 then r.1 else r.2
def everyL (n : Nat) : List Fr := (List.range (2 * n)).map evE
def thereL (own : List OI) : List Fr := ((List.range (2 * own.length)).filter fun i => (sideO (own.getD (i / 2) (none, none)) (i % 2)).isSome).map evE
structure Ends (s : Int) (own : List OI) : Prop where
  l1 : 1 ≤ own.length
  len : own.length ≤ 100
  okb : BOk (own.map (frR s))
  e1 : boxEndsF (own.map (frR s)) = thereL own
  e2 : onlyF (own.map (frR s)) (thereL own) = own.map (frR s)
  e3 : onlyF (own.map (frR s)) [] = List.replicate own.length (none, none)
  s1 : ShowOk (eB (own.map (frR s)))
  s2 : ∀ ends, ShowOk (eB (onlyF (own.map (frR s)) ends))
  s3 : ShowOk (ePt (thereL own))
local macro_rules | `(tactic| walk_at "ev") => `(tactic| repeat' (first
  | with_reducible exact ev_int
  | ((with_reducible apply ev_var); exact rfl)
  | with_reducible exact ev_non
  | with_reducible exact ev_bl
  | with_reducible exact ev_str
  | with_reducible exact ea_nil
  | with_reducible apply ea_cons
  | with_reducible apply et_test
  | with_reducible apply et_B
  | with_reducible exact et_yes
  | with_reducible apply ev_op
  | with_reducible exact op_ii
  | with_reducible exact op_ib
  | ((with_reducible apply op_ixT); exact rfl)
  | ((with_reducible apply op_ixL); exact rfl)
  | with_reducible exact op_isN'
  | with_reducible exact op_notN'
  | ((with_reducible show OpD (fun x y H Q => y = _ ∧ _) _ _ _); first | exact op_isN' | exact op_notN')
  | with_reducible refine' ev_tup ?_ (Nat.le_of_ble_eq_true rfl)
  | with_reducible refine' ev_lst ?_ (Nat.le_of_ble_eq_true rfl)
  | with_reducible apply ev_call
  | with_reducible apply ev_calK
  | with_reducible apply ev_un
  | with_reducible exact un_i
  | with_reducible apply et_not
  | with_reducible apply ev_not
  | ((with_reducible apply op_iC); first | assumption | exact FOk.mul (by assumption) _)
  | with_reducible apply ev_cb
  | with_reducible exact ca_lenL'
  | with_reducible exact ca_lenT'
  | with_reducible exact ca_int
  | with_reducible exact ca_abs
  | with_reducible exact ca_tuple'
  | ((with_reducible apply ev_and))
  | ((with_reducible refine fun (hh : _ = _) => ?_); first | cases hh | skip)))
local macro_rules | `(tactic| walk_at "go") => `(tactic| ((all_goals (walk_at "ev")); (all_goals (try exact rfl))))
section
variable {P : Program} {w : World} {K : PySem.W.Frag} {mg : PySem.Str → Option Value} {base : Heap} {f : Addr} {fd : FuncData}
abbrev s__law_ends_right : Stmt := topS 53
abbrev N__law_ends_right : List PySem.Str := ["_law_heap_here", "_law_own", "_law_box", "_law_tests_here", "_law_scale", "_law_size", "_law_kept", "_law_every", "_law_there", "_law_ends", "_law_left", "_law_at", "_law_end_here"]
abbrev p__law_ends_right : List PySem.Str := ["_law_heap_here", "_law_own", "_law_box", "_law_tests_here", "_law_scale"]
theorem sc__law_ends_right : FnScope N__law_ends_right p__law_ends_right (defScope s__law_ends_right) := ⟨rfl, rfl, rfl, by decide +kernel, rfl, by decide +kernel, by decide +kernel⟩
def R__law_ends_right (ds : List PyData) (d : PyData) : Prop := d = .bool true
def C__law_ends_right (ds : List PyData) : Prop := ∃ (own : List OI) (s : Int) (dt : PyData), Ends s own ∧ ds = [.list (own.map eOI), eB (own.map (frR s)), dt, .int s]
theorem ok__law_ends_right (F : Fun K "_law_ends_right" "_law_ends_right" s__law_ends_right f fd) (B : Blt mg) (c__law_draw : Cal P w K mg base 1 "_law_draw" p__law_draw (spS R__law_draw C__law_draw)) (c_box_ends : Cal P w K mg base 1 "box_ends" p_box_ends (spD R_box_ends)) (c_only_ends : Cal P w K mg base 1 "only_ends" p_only_ends (spD R_only_ends)) :
    FnG P w K mg base 2 f fd p__law_ends_right (spS R__law_ends_right C__law_ends_right) := by
  have nd := sc__law_ends_right.nd
  refine fun_stateG F sc__law_ends_right (fun _ h => ?_) fun cdv A outer s H E gu hr => ⟨_, (pss_cons (ps_par (i := 5) (j := 6) rfl nd rfl rfl (by decide) rfl rfl (pa_cons (pe_callB (k_len K rfl) rfl B.len (by decide +kernel) (pa_cons (pv 1) pa_nil)) (pa_cons (pe_callB (k_repr K rfl gu hr.units) rfl B.repr (by decide +kernel) (pa_cons (pv 2) pa_nil)) pa_nil)) (by rfl))
      (pss_cons (ps_setLc (i := 7) (own := [("_law_at", 11)]) rfl nd rfl rfl (sw_true rfl rfl rfl (by decide +kernel)) (pi_range1 rfl B.range (pa_cons (pe_op op_mul pe_int (pv 5)) pa_nil)) (blkOk_by (by kernel_rfl)) (fun _ _ _ _ _ => (pg_name (i := 11) nd rfl (by first | exact .inl rfl | exact .inr rfl))) (fun _ _ _ _ _ => pts_nil) (fun _ _ _ _ _ => (pe_tup (pa_cons (pe_op op_fdiv (pv 11) pe_int) (pa_cons (pe_op op_mod (pe_callTy call_int1 rfl B.int (by decide +kernel) (pa_cons (pv 11) pa_nil)) pe_int) pa_nil)))))
      (pss_cons (ps_set (i := 8) nd rfl (by first | exact .inl rfl | exact .inr rfl) (pe_callTy (k_tuple K rfl) rfl B.tuple (by decide +kernel) (pa_cons (pe_lc (own := [("_law_end_here", 12)]) rfl nd (ki_list K rfl (pv 7)) (blkOk_by (by kernel_rfl)) (fun _ _ _ _ _ => (pg_name (i := 12) nd rfl (by first | exact .inl rfl | exact .inr rfl))) (fun _ _ _ _ _ => (pts_one (pt_cmpR op_notN (pe_ix (k_ixT K rfl) (pe_ix (k_ixL K rfl) (pv 1) (pe_ix (k_ixT K rfl) (pv 12) pe_int (fun _ _ => rfl)) (fun _ _ => rfl)) (pe_ix (k_ixT K rfl) (pv 12) pe_int (fun _ _ => rfl)) (fun _ _ => rfl)) pe_non (nomark _)))) (fun _ _ _ _ _ => (pv 12))) pa_nil)))
      (pss_cons (ps_if (PW.pt (pw_or (pt_cmpR op_ne (pe_callB (k_repr K rfl gu hr.units) rfl B.repr (by decide +kernel) (pa_cons (pe_calD c_box_ends hr (by decide) rfl (pa_cons (pv 2) pa_nil)) pa_nil)) (pe_callB (k_repr K rfl gu hr.units) rfl B.repr (by decide +kernel) (pa_cons (pv 8) pa_nil)) (nomark _)) (pw_or (pt_cmpR (k_ne K rfl hr.units) (pe_calK c_box_ends hr (by decide) rfl (pk_cons (pv 2) pk_nil)) (pv 8) (nomark _)) (pw_or1 (pt_cmpR op_ne (pe_callB (k_repr K rfl gu hr.units) rfl B.repr (by decide +kernel) (pa_cons (pe_calD c_only_ends hr (by decide) rfl (pa_cons (pv 2) (pa_cons (pv 8) pa_nil))) pa_nil)) (pe_callB (k_repr K rfl gu hr.units) rfl B.repr (by decide +kernel) (pa_cons (pv 2) pa_nil)) (nomark _)))))) (pss_one (ps_ret pe_bl)) pss_nil)
      (pss_cons (ps_set (i := 9) nd rfl (by first | exact .inl rfl | exact .inr rfl) (pe_callTy (k_tuple K rfl) rfl B.tuple (by decide +kernel) (pa_cons (pe_lc (own := [("_law_end_here", 12)]) rfl nd (ki_list K rfl (pv 7)) (blkOk_by (by kernel_rfl)) (fun _ _ _ _ _ => (pg_name (i := 12) nd rfl (by first | exact .inl rfl | exact .inr rfl))) (fun _ _ _ _ _ => (pts_one (pt_cmpR op_gt (pe_calD c__law_draw hr (by decide) rfl (pa_cons (pv 0) (pa_cons pe_int pa_nil))) pe_int (nomark _)))) (fun _ _ _ _ _ => (pv 12))) pa_nil)))
      (pss_cons (ps_set (i := 10) nd rfl (by first | exact .inl rfl | exact .inr rfl) (pe_callTy (k_tuple K rfl) rfl B.tuple (by decide +kernel) (pa_cons (pe_lc (own := [("_law_at", 11)]) rfl nd (pi_range1 rfl B.range (pa_cons (pv 5) pa_nil)) (blkOk_by (by kernel_rfl)) (fun _ _ _ _ _ => (pg_name (i := 11) nd rfl (by first | exact .inl rfl | exact .inr rfl))) (fun _ _ _ _ _ => pts_nil) (fun _ _ _ _ _ => (pe_tup (pa_cons (pe_ifExp (pt_cmpR (k_inT K rfl (room65 hr)) (pe_tup (pa_cons (pv 11) (pa_cons pe_int pa_nil))) (pv 9) (by rfl)) (pe_ix (k_ixT K rfl) (pe_ix (k_ixT K rfl) (pv 2) (pv 11) (fun _ _ => rfl)) pe_int (fun _ _ => rfl)) pe_non) (pa_cons (pe_ifExp (pt_cmpR (k_inT K rfl (room65 hr)) (pe_tup (pa_cons (pv 11) (pa_cons pe_int pa_nil))) (pv 9) (by rfl)) (pe_ix (k_ixT K rfl) (pe_ix (k_ixT K rfl) (pv 2) (pv 11) (fun _ _ => rfl)) pe_int (fun _ _ => rfl)) pe_non) pa_nil))))) pa_nil)))
      (pss_cons (ps_if (PW.pt (pw_or (pt_cmpR op_ne (pe_callB (k_repr K rfl gu hr.units) rfl B.repr (by decide +kernel) (pa_cons (pe_calD c_only_ends hr (by decide) rfl (pa_cons (pv 2) (pa_cons (pv 9) pa_nil))) pa_nil)) (pe_callB (k_repr K rfl gu hr.units) rfl B.repr (by decide +kernel) (pa_cons (pv 10) pa_nil)) (nomark _)) (pw_or1 (pt_cmpR (k_ne K rfl hr.units) (pe_calK c_only_ends hr (by decide) rfl (pk_cons (pv 9) (pk_cons (pv 2) pk_nil))) (pv 10) (nomark _))))) (pss_one (ps_ret pe_bl)) pss_nil)
      (pss_one (ps_ret (pe_and (pe_cmpR (k_eq K rfl hr.units) (pe_calD c_only_ends hr (by decide) rfl (pa_cons (pv 2) (pa_cons (pe_tup pa_nil) pa_nil))) (pe_op (k_mulT K rfl) (pe_tup (pa_cons (pe_tup (pa_cons pe_non (pa_cons pe_non pa_nil))) pa_nil)) (pv 5)) (nomark _)) (pe_one (pe_cmpR op_eq (pe_callB (k_repr K rfl gu hr.units) rfl B.repr (by decide +kernel) (pa_cons (pv 2) pa_nil)) (pv 6) (nomark _))))))))))))), fun a c ds hC => ?_⟩
  · obtain ⟨own, s, dt, h, rfl⟩ := h; rfl
  obtain ⟨own, s, dt, h, rfl⟩ := hC
  have hl := h.len
  have lb : (own.map (frR s)).length = own.length := List.length_map _
  obtain ⟨n, hn⟩ : ∃ n, n = own.length := ⟨_, rfl⟩
  refine' run_seq (run_par (A := False) (evsa_a (ea_cons (ev_is (d := .int (n : Int)) (ev_cb (ea_cons (a := .list (own.map eOI)) ?_ ea_nil) ca_lenL') (by rw [List.length_map, hn])) (ea_cons (ev_cb (ea_cons (a := eB (own.map (frR s))) ?_ ea_nil) (ca_repr h.s1 ⟨_, .inl rfl⟩)) ea_nil)) ⟨_, _, rfl, ?_⟩))
  · walk_at "go"
  · walk_at "go"
  refine' run_seq (run_set (d := eFs (everyL n)) (ev_is (el_d (el_map (List.range (2 * n)) (fun i => .int ((i : Nat) : Int)) (fun i => eF (evE i)) (ei_range1 (n := ((2 * n : Nat) : Int)) (ea_cons (ev_is (ev_op (a := .int 2) (b := .int (n : Int)) ?_ ?_ (op_iC (.inl ⟨by decide, by decide⟩))) (congrArg PyData.int (by omega))) ea_nil) (by omega) (by omega)) (by rw [List.length_range]; omega) rfl fun i hi => ⟨_, _, eg_name, rfl, ?_⟩)) (by unfold everyL; rw [eFs, List.map_map]; rfl)) ?_)
  · walk_at "go"
  · walk_at "go"
  · refine' ev_is (ev_tup (ea_cons (ev_op (a := .int (i : Nat)) (b := .int 2) ?_ ?_ (op_div' ⟨by decide, by decide⟩)) (ea_cons (ev_op (ev_cb (ea_cons (a := .int (i : Nat)) ?_ ea_nil) ca_int) (b := .int 2) ?_ (op_mod' (by decide))) ea_nil)) (Nat.le_of_ble_eq_true rfl)) rfl
    walk_at "go"
  refine' run_seq (run_set (d := ePt (thereL own)) (ev_is (ev_cb (ea_cons (el_d (el_lc (List.range (2 * n)) (fun i => eF (evE i)) (fun i => (sideO (own.getD (i / 2) (none, none)) (i % 2)).isSome) (fun i => eF (evE i)) (ei_list (ev_is (d := .list ((List.range (2 * n)).map fun i => eF (evE i))) (ev_var (d := eFs (everyL n)) rfl) (by unfold everyL; rw [eFs, List.map_map]; rfl))) (by rw [List.length_range]; omega) rfl fun i hi => ⟨_, _, eg_name, rfl, ?_, fun _ => ?_⟩)) ea_nil) ca_tuple') (by unfold thereL; rw [hn, ePt, List.map_map]; rfl)) ?_)
  · have hi : i < 2 * n := List.mem_range.mp hi
    have e := getD_get (xs := own) (d := (none, none)) (i := i / 2) (by omega)
    have e2 : atI [eI (own.getD (i / 2) (none, none)).1, eI (own.getD (i / 2) (none, none)).2] ((i % 2 : Nat) : Int) = some (eI (sideO (own.getD (i / 2) (none, none)) (i % 2))) := by
      rcases Nat.mod_two_eq_zero_or_one i with z | z <;> rw [z] <;> rfl
    refine' et_is (et_test (ev_op (ev_op (ev_op (a := .list (own.map eOI)) (b := .int ((i / 2 : Nat) : Int)) ?_ (ev_op (a := eF (evE i)) (b := .int 0) ?_ ?_ (op_ixT rfl)) (op_ixL (nthm e))) (ev_op (a := eF (evE i)) (b := .int 1) ?_ ?_ (op_ixT (d := .int ((i % 2 : Nat) : Int)) rfl)) (op_ixT e2)) ev_non op_notN')) ?_
    · walk_at "go"
    · walk_at "go"
    · walk_at "go"
    · walk_at "go"
    · walk_at "go"
    · rw [isNone_I]; cases sideO (own.getD (i / 2) (none, none)) (i % 2) <;> rfl
  · walk_at "go"
  refine' run_seq (run_if0 (et_or0 (et_test (ev_op (ev_cb (ea_cons (ev_call ?_ (r_box_ends h.okb)) ea_nil) (ca_repr (by rw [h.e1]; exact h.s3) ⟨_, .inl rfl⟩)) (ev_cb (ea_cons (a := ePt (thereL own)) ?_ ea_nil) (ca_repr h.s3 ⟨_, .inl rfl⟩)) (od_neStr (by rw [h.e1])))) (et_or0 (et_is (y := false) (et_test (ev_op (ev_calK (es := [eB (own.map (frR s))]) ?_ (r_box_ends h.okb)) (ev_var (d := ePt (thereL own)) rfl) od_nePt)) (by rw [h.e1]; simp))
    (et_test (ev_op (ev_cb (ea_cons (ev_call ?_ (r_only_ends (ends := thereL own) h.okb)) ea_nil) (ca_repr (h.s2 _) ⟨_, .inl rfl⟩)) (ev_cb (ea_cons (a := eB (own.map (frR s))) ?_ ea_nil) (ca_repr h.s1 ⟨_, .inl rfl⟩)) (od_neStr (by rw [h.e2])))))) rfl (run_next ?_))
  · walk_at "go"
  · walk_at "go"
  · walk_at "go"
  · walk_at "go"
  · walk_at "go"
  refine' run_seq (run_setS (A := True) (evs_cb (esa_cons (esl_d (el_lcS (ds := (everyL n).map eF) (ei_list ?_) (by unfold everyL; rw [List.length_map, List.length_map, List.length_range]; omega) rfl (fun _ acc => ∃ l : List Fr, acc = l.map eF) ⟨[], rfl⟩ (fun i d acc ed hI => ⟨_, _, eg_name, rfl, evst_test (evs_op (evs_call (x := a) (c := c) rfl trivial (evsa_a (ds := [.int 3]) (ea_cons ev_int ea_nil) ⟨⟨3, by decide, by decide, rfl⟩, fun d' hR => evs_d ev_int ?_⟩)))⟩) (fun acc hI => esa_nil ⟨_, ca_tuple', ?_⟩))))))
  · walk_at "go"
  · obtain ⟨m, z, z0, z1, e, rfl⟩ := hR
    refine ⟨_, op_ib, _, rfl, fun _ => evs_d (ev_var rfl) ?_, fun _ => hI⟩
    obtain ⟨l, rfl⟩ := hI
    obtain ⟨e, _, rfl⟩ := map_at ed
    exact ⟨l ++ [e], by rw [List.map_append]; rfl⟩
  obtain ⟨ends, rfl⟩ := hI
  have boxg : ∀ {Γ : Ge} {i : Nat}, i < n → Γ[2]? = some (.dat (eB (own.map (frR s)))) → Γ[11]? = some (.dat (.int (i : Nat))) → EvD (tOp (rIxT K) (tVar 2) (tVar 11)) Γ (eR (rAt (own.map (frR s)) i)) := fun {Γ i} hi g2 g11 => ev_op (ev_var g2) (ev_var g11) (op_ixT (nthm (rAt_get (by rw [lb]; omega))))
  refine' run_seq (run_set (d := eB (onlyF (own.map (frR s)) ends)) (ev_is (ev_cb (ea_cons (el_d (el_map (List.range n) (fun i => .int ((i : Nat) : Int)) (fun (i : Nat) => eR (if ((i : Int), (0 : Int)) ∈ ends then (rAt (own.map (frR s)) i).1 else none, if ((i : Int), (1 : Int)) ∈ ends then (rAt (own.map (frR s)) i).2 else none)) (ei_range1 (n := (n : Int)) (ea_cons ?_ ea_nil) (by omega) (by omega)) (by rw [List.length_range]; omega) rfl fun i hi => ⟨_, _, eg_name, rfl, ?_⟩)) ea_nil) ca_tuple') ?_) ?_)
  · walk_at "go"
  · have hi := List.mem_range.mp hi
    refine' ev_tup (ea_cons (ev_if (et_B (ev_op (b := ePt ends) (a := eF ((i : Int), 0)) ?_ ?_ od_inF)) (fun e => ?_) (fun e => ?_)) (ea_cons (ev_if (et_B (ev_op (b := ePt ends) (a := eF ((i : Int), 1)) ?_ ?_ od_inF)) (fun e => ?_) (fun e => ?_)) ea_nil)) (Nat.le_of_ble_eq_true rfl)
    · walk_at "go"
    · walk_at "go"
    · have e := of_decide_eq_true e; rw [if_pos e]; exact ev_op (boxg hi rfl rfl) ev_int (op_ixT rfl)
    · have e := of_decide_eq_false e; rw [if_neg e]; exact ev_non
    · walk_at "go"
    · walk_at "go"
    · have e := of_decide_eq_true e; rw [if_pos e]; exact ev_op (boxg hi rfl rfl) ev_int (op_ixT rfl)
    · have e := of_decide_eq_false e; rw [if_neg e]; exact ev_non
  · show PyData.tuple _ = .tuple ((onlyF (own.map (frR s)) ends).map eR)
    unfold onlyF
    rw [lb, ← hn, List.map_map]
    rfl
  refine' run_seq (run_if0 (et_or0 (et_test (ev_op (ev_cb (ea_cons (ev_call ?_ (r_only_ends (ends := ends) h.okb)) ea_nil) (ca_repr (h.s2 _) ⟨_, .inl rfl⟩)) (ev_cb (ea_cons (a := eB (onlyF (own.map (frR s)) ends)) ?_ ea_nil) (ca_repr (h.s2 _) ⟨_, .inl rfl⟩)) (od_neStr rfl))) (et_is (y := false) (et_test (ev_op (ev_calK (es := [ePt ends, eB (own.map (frR s))]) ?_ (r_only_ends (ends := ends) h.okb)) (ev_var (d := eB (onlyF (own.map (frR s)) ends)) rfl) op_neB)) (by simp))) rfl (run_next ?_))
  · walk_at "go"
  · walk_at "go"
  · walk_at "go"
  refine' run_retS (A := False) (evs_d (d := .bool true) (ev_and1 (ev_is (ev_op (ev_call (ea_cons (ev_var (d := eB (own.map (frR s))) rfl) (ea_cons (ev_tup ea_nil (Nat.zero_le _)) ea_nil)) (r_only_ends (ends := []) h.okb)) (ev_is (d := eB (List.replicate n (none, none))) (ev_op (a := .tuple [eR (none, none)]) (b := .int (n : Int)) (ev_tup (ea_cons (ev_tup (ea_cons ev_non (ea_cons ev_non ea_nil)) (Nat.le_of_ble_eq_true rfl)) ea_nil) (Nat.le_of_ble_eq_true rfl)) (ev_var rfl) (od_mulT (n := n) (by simp) (by have := h.l1; omega) (by omega) (by simp))) (by
    show PyData.tuple _ = .tuple ((List.replicate n ((none, none) : Rf)).map eR)
    rw [List.map_replicate]
    congr 1
    induction n with
    | zero => rfl
    | succ m ih => simp [List.replicate_succ])) op_eqB) (by rw [h.e3, hn]; simp)) (ev_op (ev_cb (ea_cons (ev_var (d := eB (own.map (frR s))) rfl) ea_nil) (ca_repr h.s1 ⟨_, .inl rfl⟩)) (ev_var rfl) od_eqStr)) ?_)
  exact ⟨rfl, rfl⟩
end
end Bx
namespace Bx
open PySem PySem.Spec L2 PyProof.Rows
def Fitd (s v : Int) : Prop := -1000000000 ≤ (fr s v).1 ∧ (fr s v).1 ≤ 1000000000
theorem fit_mem {s v : Int} {vs : List Int} (h0 : Fitd s 0) (h : v ∈ fitF s vs) : Fitd s v := by
  unfold fitF at h
  rcases List.mem_append.mp h with m | m
  · have := of_decide_eq_true (List.mem_filter.mp m).2
    unfold Fitd
    split at this <;> omega
  · rw [List.mem_singleton.mp m]; exact h0
def dueB (own : List OI) (p : List Int) : Bool := (List.range own.length).all fun i => hasI (own.getD i (none, none)) (p.getD i 0)
abbrev ptB (p : List Fr) : List Rf := p.map fun v => (some v, some v)
structure Pts (s : Int) (own : List OI) (ts : List (List Int × List Fr)) : Prop where
  hs : SOk s
  l1 : 1 ≤ own.length
  len : own.length ≤ 100
  tsl : ts.length = own.length
  tl : ∀ t ∈ ts, t.1.length ≤ 90
  okb : BOk (own.map (frR s))
  ov : ∀ v, FOk (fr s v)
  f0 : Fitd s 0
  ib : ∀ p : List Int, p.length = own.length → inBoxF (p.map (fr s)) (own.map (frR s)) = dueB own p
  ip : ∀ p : List Int, inBoxF (p.map (fr s)) (ptB (p.map (fr s))) = true
  wb : ∀ p : List Int, p.length = own.length → withinF (ptB (p.map (fr s))) (own.map (frR s)) = dueB own p
  sh : ∀ p : List Int, p.length = own.length → (∀ v ∈ p, Fitd s v) → ShowOk (eB (ptB (p.map (fr s))))
theorem plain1 {Γ : Ge} {u : Sl} {j : Nat} (h : plainAt [u] 0 = true) (e : Γ[j]? = some u) : plainAt Γ j = true := by
  unfold plainAt at *
  rw [e]; exact h
local macro_rules | `(tactic| walk_at "ev") => `(tactic| repeat' (first
  | with_reducible exact ev_int
  | ((with_reducible apply ev_var); exact rfl)
  | with_reducible exact ev_non
  | with_reducible exact ev_bl
  | with_reducible exact ev_str
  | with_reducible exact ea_nil
  | with_reducible apply ea_cons
  | with_reducible apply et_test
  | with_reducible apply et_B
  | with_reducible exact et_yes
  | with_reducible apply ev_op
  | with_reducible exact op_ii
  | with_reducible exact op_ib
  | ((with_reducible apply op_ixT); exact rfl)
  | ((with_reducible apply op_ixL); exact rfl)
  | with_reducible exact op_isN'
  | with_reducible exact op_notN'
  | ((with_reducible show OpD (fun x y H Q => y = _ ∧ _) _ _ _); first | exact op_isN' | exact op_notN')
  | with_reducible refine' ev_tup ?_ (Nat.le_of_ble_eq_true rfl)
  | with_reducible refine' ev_lst ?_ (Nat.le_of_ble_eq_true rfl)
  | with_reducible apply ev_call
  | with_reducible apply ev_calK
  | with_reducible apply ev_un
  | with_reducible exact un_i
  | with_reducible apply et_not
  | with_reducible apply ev_not
  | ((with_reducible apply op_iC); first | assumption | exact FOk.mul (by assumption) _)
  | with_reducible apply ev_cb
  | with_reducible exact ca_lenL'
  | with_reducible exact ca_lenT'
  | with_reducible exact ca_int
  | with_reducible exact ca_abs
  | with_reducible exact ca_tuple'
  | ((with_reducible apply ev_and))
  | ((with_reducible refine fun (hh : _ = _) => ?_); first | cases hh | skip)))
local macro_rules | `(tactic| walk_at "go") => `(tactic| ((all_goals (walk_at "ev")); (all_goals (try exact rfl))))
section
variable {P : Program} {w : World} {K : PySem.W.Frag} {mg : PySem.Str → Option Value} {base : Heap} {f : Addr} {fd : FuncData}
theorem r_in_box {p : List Fr} {b : List Rf} (hl : p.length = b.length) (hb : BOk b) (hp : ∀ v ∈ p, FOk v) : R_in_box [ePt p, eB b] (.bool (inBoxF p b)) := ⟨p, b, hl, hb.1, hp, hb.2, rfl, rfl⟩
theorem r_point_box {p : List Fr} (hl : p.length ≤ 100) : R_point_box [ePt p] (eB (ptB p)) := ⟨p, hl, rfl, rfl⟩
theorem r__law_pick {xs : List PyData} (h : xs ≠ []) (hl : xs.length ≤ 1000) : C__law_pick [.list xs] := ⟨xs, h, hl, rfl⟩
theorem fit_len (s : Int) (vs : List Int) : (fitF s vs).length ≤ vs.length + 1 := by
  unfold fitF
  rw [List.length_append]
  have := List.length_filter_le (fun v => decide ((if (fr s v).1 < 0 then -(fr s v).1 else (fr s v).1) ≤ 1000000000)) vs
  show _ + 1 ≤ _
  omega
theorem fit_ne (s : Int) (vs : List Int) : fitF s vs ≠ [] := by unfold fitF; simp
/-- pick(heap, fit(..)) -/
theorem evs_pf {A : Prop} {Γ : Ge} {a c : Addr} {s : Int} {vs : List Int} {i : Nat} {S : PyData → Prop} {targ : TA} (g0 : Γ[i]? = some (.hp a c)) (hA : A) (hs : SOk s) (hl : vs.length ≤ 100) (h : EvA targ Γ [eIs vs, .int s]) (q : ∀ v, v ∈ fitF s vs → S (.int v)) :
    EvS A (tCall (spS R__law_pick C__law_pick) [] E0 (tCons (tVar i) (tCons (tCall (spD R__law_fit) [] E0 targ) tNil))) Γ S := by
  refine evs_call (x := a) (c := c) g0 hA (evsa_a (ds := [eIs (fitF s vs)]) (ea_cons (ev_call h (r__law_fit hl hs)) ea_nil) ⟨r__law_pick (fun e => fit_ne s vs (List.map_eq_nil_iff.mp e)) (by rw [List.length_map]; have := fit_len s vs; omega), fun d hR => ?_⟩)
  obtain ⟨xs, e, hd⟩ := hR
  have e : xs = (fitF s vs).map PyData.int := by cases e; rfl
  subst e
  obtain ⟨v, hv, rfl⟩ := List.mem_map.mp hd
  exact q v hv
abbrev s__law_points_right : Stmt := topS 56
abbrev N__law_points_right : List PySem.Str := ["_law_heap_here", "_law_own", "_law_box", "_law_tests_here", "_law_scale", "_law_turn", "_law_point", "_law_at", "_law_due", "_law_told", "_law_value", "_law_part"]
abbrev p__law_points_right : List PySem.Str := ["_law_heap_here", "_law_own", "_law_box", "_law_tests_here", "_law_scale"]
theorem sc__law_points_right : FnScope N__law_points_right p__law_points_right (defScope s__law_points_right) := ⟨rfl, rfl, rfl, by decide +kernel, rfl, by decide +kernel, by decide +kernel⟩
def R__law_points_right (ds : List PyData) (d : PyData) : Prop := d = .bool true
def C__law_points_right (ds : List PyData) : Prop := ∃ (own : List OI) (ts : List (List Int × List Fr)) (s : Int), Pts s own ts ∧ ds = [.list (own.map eOI), eB (own.map (frR s)), .list (ts.map eT), .int s]
theorem ok__law_points_right (F : Fun K "_law_points_right" "_law_points_right" s__law_points_right f fd) (B : Blt mg) (c__law_draw : Cal P w K mg base 1 "_law_draw" p__law_draw (spS R__law_draw C__law_draw)) (c__law_pick : Cal P w K mg base 2 "_law_pick" p__law_pick (spS R__law_pick C__law_pick))
    (c__law_fit : Cal P w K mg base 2 "_law_fit" p__law_fit (spD R__law_fit)) (c__law_all_in : Cal P w K mg base 2 "_law_all_in" p__law_all_in (spD R__law_all_in)) (c__law_has : Cal P w K mg base 1 "_law_has" p__law_has (spD R__law_has)) (c__law_lowest : Cal P w K mg base 1 "_law_lowest" p__law_lowest (spD R__law_lowest))
    (c_in_box : Cal P w K mg base 4 "in_box" p_in_box (spD R_in_box)) (c_point_box : Cal P w K mg base 1 "point_box" p_point_box (spD R_point_box)) (c_within : Cal P w K mg base 4 "within" p_within (spD R_within)) :
    FnG P w K mg base 5 f fd p__law_points_right (spS R__law_points_right C__law_points_right) := by
  have nd := sc__law_points_right.nd
  refine fun_stateG F sc__law_points_right (fun _ h => ?_) fun cdv A outer s H E gu hr => ⟨_, (pss_cons (ps_for PassesOwn.never rfl (pi_range1 rfl B.range (pa_cons pe_int pa_nil)) (pg_name (i := 5) nd rfl (by first | exact .inl rfl | exact .inr rfl)) (pss_cons (ps_set (i := 6) nd rfl (by first | exact .inl rfl | exact .inr rfl) (pe_lc (own := [("_law_at", 7)]) rfl nd (pi_range1 rfl B.range (pa_cons (pe_callB (k_len K rfl) rfl B.len (by decide +kernel) (pa_cons (pv 1) pa_nil)) pa_nil)) (blkOk_by (by kernel_rfl)) (fun _ _ _ _ _ => (pg_name (i := 7) nd rfl (by first | exact .inl rfl | exact .inr rfl))) (fun _ _ _ _ _ => pts_nil) (fun _ _ _ _ _ => (pe_calD c__law_pick hr (by decide) rfl (pa_cons (pv 0) (pa_cons (pe_calD c__law_fit hr (by decide) rfl (pa_cons (pe_calD c__law_all_in hr (by decide) rfl (pa_cons (pe_ix (k_ixL K rfl) (pv 1) (pv 7) (fun _ _ => rfl)) (pa_cons (pe_ix (k_ixL K rfl) (pv 3) (pv 7) (fun _ _ => rfl)) pa_nil))) (pa_cons (pv 4) pa_nil))) pa_nil))))))
      (pss_cons (ps_if (pt_cmpR op_gt (pv 5) pe_int (nomark _)) (pss_cons (ps_set (i := 7) nd rfl (by first | exact .inl rfl | exact .inr rfl) (pe_calD c__law_draw hr (by decide) rfl (pa_cons (pv 0) (pa_cons (pe_callB (k_len K rfl) rfl B.len (by decide +kernel) (pa_cons (pv 1) pa_nil)) pa_nil))))
      (pss_one (ps_asg (pe_calD c__law_pick hr (by decide) rfl (pa_cons (pv 0) (pa_cons (pe_calD c__law_fit hr (by decide) rfl (pa_cons (pe_ix (k_ixT K rfl) (pe_ix (k_ixL K rfl) (pv 3) (pv 7) (fun _ _ => rfl)) pe_int (fun _ _ => rfl)) (pa_cons (pv 4) pa_nil))) pa_nil))) (pg_sub (pv 6) (pv 7) set_list)))) pss_nil)
      (pss_cons (ps_set (i := 8) nd rfl (by first | exact .inl rfl | exact .inr rfl) (pe_callB (k_all K rfl rfl) rfl B.all (by decide +kernel) (pa_cons (pe_lc (own := [("_law_at", 7)]) rfl nd (pi_range1 rfl B.range (pa_cons (pe_callB (k_len K rfl) rfl B.len (by decide +kernel) (pa_cons (pv 1) pa_nil)) pa_nil)) (blkOk_by (by kernel_rfl)) (fun _ _ _ _ _ => (pg_name (i := 7) nd rfl (by first | exact .inl rfl | exact .inr rfl))) (fun _ _ _ _ _ => pts_nil) (fun _ _ _ _ _ => (pe_calD c__law_has hr (by decide) rfl (pa_cons (pe_ix (k_ixL K rfl) (pv 1) (pv 7) (fun _ _ => rfl)) (pa_cons (pe_ix (k_ixL K rfl) (pv 6) (pv 7) (fun _ _ => rfl)) pa_nil))))) pa_nil)))
      (pss_cons (ps_set (i := 9) nd rfl (by first | exact .inl rfl | exact .inr rfl) (pe_callTy (k_tuple K rfl) rfl B.tuple (by decide +kernel) (pa_cons (pe_lc (own := [("_law_value", 10)]) rfl nd (ki_list K rfl (pv 6)) (blkOk_by (by kernel_rfl)) (fun _ _ _ _ _ => (pg_name (i := 10) nd rfl (by first | exact .inl rfl | exact .inr rfl))) (fun _ _ _ _ _ => pts_nil) (fun _ _ _ _ _ => (pe_calD c__law_lowest hr (by decide) rfl (pa_cons (pv 10) (pa_cons (pv 4) pa_nil))))) pa_nil)))
      (pss_cons (ps_if (PW.pt (pw_or (pt_cmpR op_ne (pe_callB cr_reprB rfl B.repr (by decide +kernel) (pa_cons (pe_calD c_in_box hr (by decide) rfl (pa_cons (pv 9) (pa_cons (pv 2) pa_nil))) pa_nil)) (pe_callB cr_reprB rfl B.repr (by decide +kernel) (pa_cons (pv 8) pa_nil)) (nomark _)) (pw_or1 (pt_cmpR (k_ne K rfl hr.units) (pe_calK c_in_box hr (by decide) rfl (pk_cons (pv 2) (pk_cons (pv 9) pk_nil))) (pv 8) (nomark _))))) (pss_one (ps_ret pe_bl)) pss_nil)
      (pss_cons (ps_if (PW.pt (pw_or (pt_cmpR op_ne (pe_callB (k_repr K rfl gu hr.units) rfl B.repr (by decide +kernel) (pa_cons (pe_calD c_point_box hr (by decide) rfl (pa_cons (pv 9) pa_nil)) pa_nil)) (pe_callB (k_repr K rfl gu hr.units) rfl B.repr (by decide +kernel) (pa_cons (pe_callTy (k_tuple K rfl) rfl B.tuple (by decide +kernel) (pa_cons (pe_lc (own := [("_law_part", 11)]) rfl nd (ki_tup K rfl (pv 9)) (blkOk_by (by kernel_rfl)) (fun _ _ _ _ _ => (pg_name (i := 11) nd rfl (by first | exact .inl rfl | exact .inr rfl))) (fun _ _ _ _ _ => pts_nil) (fun _ _ _ _ _ => (pe_tup (pa_cons (pv 11) (pa_cons (pv 11) pa_nil))))) pa_nil)) pa_nil)) (nomark _)) (pw_or1 (pt_not (pt_val (pe_calD c_in_box hr (by decide) rfl (pa_cons (pv 9) (pa_cons (pe_calK c_point_box hr (by decide) rfl (pk_cons (pv 9) pk_nil)) pa_nil)))))))) (pss_one (ps_ret pe_bl)) pss_nil)
      (pss_one (ps_if (pt_cmpR (k_ne K rfl hr.units) (pv 8) (pe_calD c_within hr (by decide) rfl (pa_cons (pe_calD c_point_box hr (by decide) rfl (pa_cons (pv 9) pa_nil)) (pa_cons (pv 2) pa_nil))) (nomark _)) (pss_one (ps_ret pe_bl)) pss_nil)))))))))
      (pss_one (ps_ret pe_bl))), fun a c ds hC => ?_⟩
  · obtain ⟨own, ts, s, h, rfl⟩ := h; rfl
  obtain ⟨own, ts, s, h, rfl⟩ := hC
  have hl := h.len
  have hl1 := h.l1
  have lb : (own.map (frR s)).length = own.length := List.length_map _
  obtain ⟨n, hn⟩ : ∃ n, n = own.length := ⟨_, rfl⟩
  have lz : (own.zip ts).length = own.length := by rw [List.length_zip, h.tsl, Nat.min_self]
  refine' run_seq (run_for (ei_range1 (n := 2) (ea_cons ev_int ea_nil) (by decide) (by decide)) (fun i Γ => ∃ u5 u6 u7 u8 u9, plainAt [u7] 0 = true ∧ Γ = [.hp a c, .dat (.list (own.map eOI)), .dat (eB (own.map (frR s))), .dat (.list (ts.map eT)), .dat (.int s), u5, u6, u7, u8, u9, .non, .non]) ⟨_, _, _, _, _, rfl, rfl⟩ (fun i d Γi ed hI => ?_) (fun Γn hI => ?_))
  · obtain ⟨u5, u6, u7, u8, u9, pu, rfl⟩ := hI
    obtain ⟨tn, et, rfl⟩ := map_at ed
    refine ⟨_, _, eg_name, ?_⟩
    refine' run_seq (run_setSM (A := True) (el_lcS (ds := (List.range n).map fun i => .int ((i : Nat) : Int)) (ei_range1 (n := (n : Int)) (ea_cons (ev_is (ev_cb (ea_cons (a := .list (own.map eOI)) ?_ ea_nil) ca_lenL') (by rw [List.length_map, hn])) ea_nil) (by omega) (by omega)) (by rw [List.length_map, List.length_range]; omega)
      (by show (plainAt _ 7 && true) = true; rw [plain1 (j := 7) pu rfl]; rfl) (fun i acc => ∃ p : List Int, acc = p.map PyData.int ∧ p.length = i ∧ ∀ v ∈ p, Fitd s v) ⟨[], rfl, rfl, fun _ z => by cases z⟩ (fun j d acc ed hI => ?_) (fun acc hI => ?_)))
    · walk_at "go"
    · obtain ⟨p, rfl, hp, hf⟩ := hI
      obtain ⟨j', ej, rfl⟩ := map_at ed
      have hj : j < n := by have := (List.getElem?_eq_some_iff.mp ej).1; simpa using this
      have ej : j' = j := by rw [List.getElem?_range hj] at ej; exact (Option.some.inj ej).symm
      subst ej
      have e := getD_get (xs := own.zip ts) (d := ((none, none), ([], []))) (i := j') (by rw [lz]; omega)
      have e' := List.getElem?_zip_eq_some.mp e
      have tl := h.tl _ (List.mem_of_getElem? e'.2)
      refine ⟨_, _, eg_name, rfl, evst_t et_yes ⟨fun _ => ?_, fun z => by cases z⟩⟩
      refine' evs_pf (a := a) (c := c) rfl trivial h.hs ?_ (ea_cons (ev_call (ea_cons (ev_op (a := .list (own.map eOI)) (b := .int (j' : Nat)) ?_ ?_ (op_ixL (nthm e'.1))) (ea_cons (ev_op (a := .list (ts.map eT)) (b := .int (j' : Nat)) ?_ ?_ (op_ixL (nthm e'.2))) ea_nil)) (r__law_all_in (by omega))) (ea_cons ?_ ea_nil)) (fun v hv => ?_)
      · exact Nat.le_trans (List.length_filter_le _ _) (by omega)
      · walk_at "go"
      · walk_at "go"
      · walk_at "go"
      · walk_at "go"
      · walk_at "go"
      · exact ⟨p ++ [v], by rw [List.map_append]; rfl, by rw [List.length_append, hp]; rfl, fun x hx => (List.mem_append.mp hx).elim (hf x) fun m => by rw [List.mem_singleton.mp m]; exact fit_mem h.f0 hv⟩
    · obtain ⟨p, rfl, hp, hf⟩ := hI
      rw [List.length_map, List.length_range] at hp
      -- behind the choices
      refine' run_seq (run_imp (P := { nx := fun Γ => ∃ (p : List Int) (v7 : Sl), p.length = n ∧ (∀ v ∈ p, Fitd s v) ∧ plainAt [v7] 0 = true ∧ Γ = [.hp a c, .dat (.list (own.map eOI)), .dat (eB (own.map (frR s))), .dat (.list (ts.map eT)), .dat (.int s), .dat (.int (tn : Nat)), .mu (p.map PyData.int), v7, u8, u9, .non, .non] }) ?_ (fun Γ' hG => ?_) (fun _ _ z => z.elim) (fun _ z => z.elim) (fun _ z => z.elim))
      · refine' run_if (et_test (ev_op (ev_var (d := .int (tn : Nat)) rfl) ev_int op_ib)) (fun hb => ?_) (fun hb => run_next ⟨p, u7, hp, hf, pu, rfl⟩)
        refine' run_seq (run_setS (A := True) (evs_call (x := a) (c := c) rfl trivial (evsa_a (ds := [.int (n : Int)]) (ea_cons (ev_is (ev_cb (ea_cons (a := .list (own.map eOI)) ?_ ea_nil) ca_lenL') (by rw [List.length_map, hn])) ea_nil) ⟨⟨(n : Int), by omega, by omega, rfl⟩, fun d' hR => ?_⟩)))
        · walk_at "go"
        · obtain ⟨m, y, y0, y1, e, rfl⟩ := hR
          have e : m = (n : Int) := by cases e; rfl
          subst e
          obtain ⟨j, rfl⟩ := Int.eq_ofNat_of_zero_le y0
          have hj : j < n := by omega
          obtain ⟨t, et'⟩ : ∃ t, ts[j]? = some t := ⟨_, List.getElem?_eq_getElem (by rw [h.tsl]; omega)⟩
          have tl := h.tl _ (List.mem_of_getElem? et')
          refine' run_setAt (A := True) (j := 6) (i := j) rfl (evs_pf (a := a) (c := c) (vs := t.1) rfl trivial h.hs (by omega) (ea_cons (ev_op (ev_op (a := .list (ts.map eT)) (b := .int (j : Nat)) ?_ ?_ (op_ixL (nthm et'))) ev_int (op_ixT rfl)) (ea_cons ?_ ea_nil)) (fun v hv => ?_)) ?_ (by rw [List.length_map, hp]; exact hj)
          · walk_at "go"
          · walk_at "go"
          · walk_at "go"
          · refine ⟨p.set j v, .dat (.int (j : Nat)), by rw [List.length_set]; exact hp, fun x hx => ?_, rfl, ?_⟩
            · rcases List.mem_or_eq_of_mem_set hx with m | m
              · exact hf x m
              · rw [m]; exact fit_mem h.f0 hv
            · rw [List.map_set]; exact rfl
          · walk_at "go"
      · obtain ⟨p, v7, hp, hf, pv7, rfl⟩ := hG
        have lp : p.length = own.length := by omega
        refine run_freeze (j := 6) rfl ?_
        refine' run_seq (run_set (d := .bool (dueB own p)) (ev_is (ev_cb (ea_cons (el_d (el_map (List.range n) (fun i => .int ((i : Nat) : Int)) (fun i => .bool (hasI (own.getD i (none, none)) (p.getD i 0))) (ei_range1 (n := (n : Int)) (ea_cons (ev_is (ev_cb (ea_cons (a := .list (own.map eOI)) ?_ ea_nil) ca_lenL') (by rw [List.length_map, hn])) ea_nil) (by omega) (by omega)) (by rw [List.length_range]; omega) (by show (plainAt _ 7 && true) = true; rw [plain1 (j := 7) pv7 rfl]; rfl) fun j hj => ⟨_, _, eg_name, rfl, ?_⟩)) ea_nil) ca_allm) (by rw [hn]; rfl)) ?_)
        · walk_at "go"
        · have hj := List.mem_range.mp hj
          have e1 := getD_get (xs := own) (d := (none, none)) (i := j) (by omega)
          have e2 := getD_get (xs := p) (d := 0) (i := j) (by omega)
          refine' ev_call (ea_cons (ev_op (a := .list (own.map eOI)) (b := .int (j : Nat)) ?_ ?_ (op_ixL (nthm e1))) (ea_cons (ev_op (a := eIs p) (b := .int (j : Nat)) ?_ ?_ (op_ixL (nthm e2))) ea_nil)) r__law_has
          walk_at "go"
        refine' run_seq (run_set (d := ePt (p.map (fr s))) (ev_is (ev_cb (ea_cons (el_d (el_map p PyData.int (fun v => eF (fr s v)) (ei_list ?_) (by omega) rfl fun v hv => ⟨_, _, eg_name, rfl, ev_call ?_ (r__law_lowest h.hs.1 h.hs.2)⟩)) ea_nil) ca_tuple') (by rw [ePt, List.map_map]; rfl)) ?_)
        · walk_at "go"
        · walk_at "go"
        have lpb : (p.map (fr s)).length = (own.map (frR s)).length := by rw [List.length_map, List.length_map, lp]
        have pok : ∀ v ∈ p.map (fr s), FOk v := fun v hv => by obtain ⟨x, _, rfl⟩ := List.mem_map.mp hv; exact h.ov x
        have okp : BOk (ptB (p.map (fr s))) := ⟨by rw [List.length_map, List.length_map]; omega, fun r hr => by obtain ⟨x, hx, rfl⟩ := List.mem_map.mp hr; exact ⟨.some (pok x hx), .some (pok x hx)⟩⟩
        have l100 : (p.map (fr s)).length ≤ 100 := by rw [List.length_map]; omega
        have lpp : (p.map (fr s)).length = (ptB (p.map (fr s))).length := (List.length_map _).symm
        refine' run_seq (run_if0 (et_or0 (et_test (ev_op (ev_cb (ea_cons (ev_call ?_ (r_in_box lpb h.okb pok)) ea_nil) ca_reprB) (ev_cb (ea_cons (a := .bool (dueB own p)) ?_ ea_nil) ca_reprB) (od_neRep (h.ib p lp)))) (et_is (y := false) (et_test (ev_op (ev_calK (es := [eB (own.map (frR s)), ePt (p.map (fr s))]) ?_ (r_in_box lpb h.okb pok)) (ev_var (d := .bool (dueB own p)) rfl) od_neB)) (by rw [h.ib p lp]; simp))) rfl (run_next ?_))
        · walk_at "go"
        · walk_at "go"
        · walk_at "go"
        refine' run_seq (run_if0 (et_or0 (et_test (ev_op (ev_cb (ea_cons (ev_call ?_ (r_point_box l100)) ea_nil) (ca_repr (h.sh p lp hf) ⟨_, .inl rfl⟩)) (ev_cb (ea_cons (a := eB (ptB (p.map (fr s)))) (ev_is (ev_cb (ea_cons (el_d (el_map (p.map (fr s)) eF (fun v => eR (some v, some v)) (ei_tup ?_) (by omega) rfl fun v hv => ⟨_, _, eg_name, rfl, ?_⟩)) ea_nil) ca_tuple') (congrArg PyData.tuple (List.map_map (f := fun v : Fr => ((some v, some v) : Rf)) (g := eR) (l := p.map (fr s))).symm)) ea_nil) (ca_repr (h.sh p lp hf) ⟨_, .inl rfl⟩)) (od_neStr rfl))) (et_not (c := true) (et_test (ev_is (ev_call (ea_cons ?_ (ea_cons (ev_calK (es := [ePt (p.map (fr s))]) ?_ (r_point_box l100)) ea_nil)) (r_in_box lpp okp pok)) (congrArg PyData.bool (h.ip p)))))) rfl (run_next ?_))
        · walk_at "go"
        · walk_at "go"
        · walk_at "go"
        · walk_at "go"
        · walk_at "go"
        refine' run_if0 (et_is (y := false) (et_test (ev_op (ev_var (d := .bool (dueB own p)) rfl) (ev_call (ea_cons (ev_call ?_ (r_point_box l100)) (ea_cons ?_ ea_nil)) (r_within (lpp.symm.trans lpb) okp h.okb)) od_neB)) (by rw [h.wb p lp]; simp)) rfl (run_next ⟨_, _, _, _, _, ?_, rfl⟩)
        · walk_at "go"
        · walk_at "go"
        · exact pv7
  · obtain ⟨u5, u6, u7, u8, u9, pu, rfl⟩ := hI
    exact run_retS (A := False) (evs_d (d := .bool true) ev_bl ⟨rfl, rfl⟩)
end
end Bx
namespace Bx
open PySem PySem.Spec L2 PyProof.Rows
local macro_rules | `(tactic| walk_at "ev") => `(tactic| repeat' (first
  | with_reducible exact ev_int
  | ((with_reducible apply ev_var); exact rfl)
  | with_reducible exact ev_non
  | with_reducible exact ev_bl
  | with_reducible exact ev_str
  | with_reducible exact ea_nil
  | with_reducible apply ea_cons
  | with_reducible apply et_test
  | with_reducible apply et_B
  | with_reducible exact et_yes
  | with_reducible apply ev_op
  | with_reducible exact op_ii
  | with_reducible exact op_ib
  | ((with_reducible apply op_ixT); exact rfl)
  | ((with_reducible apply op_ixL); exact rfl)
  | with_reducible exact op_isN'
  | with_reducible exact op_notN'
  | ((with_reducible show OpD (fun x y H Q => y = _ ∧ _) _ _ _); first | exact op_isN' | exact op_notN')
  | with_reducible refine' ev_tup ?_ (Nat.le_of_ble_eq_true rfl)
  | with_reducible refine' ev_lst ?_ (Nat.le_of_ble_eq_true rfl)
  | with_reducible apply ev_call
  | with_reducible apply ev_calK
  | with_reducible apply ev_un
  | with_reducible exact un_i
  | with_reducible apply et_not
  | with_reducible apply ev_not
  | ((with_reducible apply op_iC); first | assumption | exact FOk.mul (by assumption) _)
  | with_reducible apply ev_cb
  | with_reducible exact ca_lenL'
  | with_reducible exact ca_lenT'
  | with_reducible exact ca_int
  | with_reducible exact ca_abs
  | with_reducible exact ca_tuple'
  | ((with_reducible apply ev_and))
  | ((with_reducible refine fun (hh : _ = _) => ?_); first | cases hh | skip)))
local macro_rules | `(tactic| walk_at "go") => `(tactic| ((all_goals (walk_at "ev")); (all_goals (try exact rfl))))
section
variable {P : Program} {w : World} {K : PySem.W.Frag} {mg : PySem.Str → Option Value} {base : Heap} {f : Addr} {fd : FuncData}
abbrev s__law_heap : Stmt := topS 38
abbrev N__law_heap : List PySem.Str := ["_law_script", "_law_cells", "_law_stir", "_law_cell"]
abbrev p__law_heap : List PySem.Str := ["_law_script"]
theorem sc__law_heap : FnScope N__law_heap p__law_heap (defScope s__law_heap) := ⟨rfl, rfl, rfl, by decide +kernel, rfl, by decide +kernel, by decide +kernel⟩
def spHeap (K : PySem.W.Frag) : Sp := fun vs H Q _ => ∃ (p : Addr) (ns : List Int), vs = [.ref p] ∧ SqL K H p (ns.map V.int) ∧ ∀ a c k' H', Le (fun _ => none) H k' H' → HpAt k' H' a c → Q (.ref a) H'
theorem ok__law_heap (F : Fun K "_law_heap" "_law_heap" s__law_heap f fd) (B : Blt mg) : FnOk P w K mg base CX0 1 f fd p__law_heap (spHeap K) := by
  have nd := sc__law_heap.nd
  refine F.ok sc__law_heap (fun vs H Q E h => ?_) (fun cdv A outer s H vs Q E hr h => ?_)
  · obtain ⟨p, ns, rfl, _⟩ := h; rfl
  obtain ⟨p, ns, rfl, hsq, hQ⟩ := h
  refine ⟨_, (pss_cons (ps_par (i := 1) (j := 2) rfl nd rfl rfl (by decide) rfl rfl (pa_cons (pe_lc (own := [("_law_cell", 3)]) rfl nd (ki_list K rfl (pe_slice (k_slL K rfl) (pv 0) po_none (po_some pe_int))) (blkOk_by (by kernel_rfl)) (fun _ _ _ _ _ => (pg_name (i := 3) nd rfl (by first | exact .inl rfl | exact .inr rfl))) (fun _ _ _ _ _ => pts_nil) (fun _ _ _ _ _ => (pe_callB call_abs rfl B.abs (by decide +kernel) (pa_cons (pv 3) pa_nil)))) (pa_cons pe_int pa_nil)) (by rfl))
      (pss_cons (ps_for PassesOwn.never rfl (ki_list K rfl (pv 1)) (pg_name (i := 3) nd rfl (by first | exact .inl rfl | exact .inr rfl)) (pss_one (ps_set (i := 2) nd rfl (by first | exact .inl rfl | exact .inr rfl) (pe_op op_mod (pe_callTy call_int1 rfl B.int (by decide +kernel) (pa_cons (pe_op op_add (pe_op op_add (pe_op op_mul (pv 2) pe_int) (pe_op op_mod (pe_callTy call_int1 rfl B.int (by decide +kernel) (pa_cons (pv 3) pa_nil)) pe_int)) pe_int) pa_nil)) pe_int))))
      (pss_one (ps_ret (pe_lst (pa_cons (k_rev K rfl (pe_lc (own := [("_law_cell", 3)]) rfl nd (ki_list K rfl (pv 1)) (blkOk_by (by kernel_rfl)) (fun _ _ _ _ _ => (pg_name (i := 3) nd rfl (by first | exact .inl rfl | exact .inr rfl))) (fun _ _ _ _ _ => (pts_one (pt_cmpR op_ge (pv 3) (pe_op op_pow pe_int pe_int) (nomark _)))) (fun _ _ _ _ _ => (pv 3)))) (pa_cons (pv 2) pa_nil))))))), ?_⟩
  have cut60 : cutV (ns.map V.int) none (some 60) = (ns.take 60).map V.int := by
    unfold cutV
    rw [show (some (60 : Int)) = some ((60 : Nat) : Int) from rfl, HT.sIx_nat, HT.sIx_none, List.drop_zero, Nat.sub_zero, ← List.map_take, List.length_map]
    congr 1
    rcases Nat.le_total 60 ns.length with h | h
    · rw [Nat.min_eq_left h]
    · rw [Nat.min_eq_right h, List.take_length, List.take_of_length_le h]
  have l60 : (ns.take 60).length ≤ 60 := by rw [List.length_take]; omega
  refine ⟨.ref p, rfl, 60, rfl, p, _, rfl, hsq, fun q hq => ⟨q, rfl, ⟨_, .inl (.inl upd_same)⟩, ?_⟩⟩
  rw [cut60]
  have k1 : Le (fun _ => none) H (upd (fun _ => none) q (.lst ((ns.take 60).map V.int))) (upd H q (.lst ((ns.take 60).map V.int))) := Le.new (fun _ _ z => by cases z) hq
  have E1 : Env (upd (fun _ => none) q (.lst ((ns.take 60).map V.int))) (upd H q (.lst ((ns.take 60).map V.int))) [some (.ref q), none, none, none] [.dat (eIs (ns.take 60)), .non, .non, .non] := by
    refine ⟨rfl, fun i sl e => ?_, fun i j sl t v u ij e1 e2 f1 f2 x w1 w2 => ?_⟩
    · match i with
      | 0 => cases e; exact ⟨_, rfl, _, rfl, .lst upd_same (DqAll.ofInts _)⟩
      | 1 => cases e; exact ⟨_, rfl, trivial⟩
      | 2 => cases e; exact ⟨_, rfl, trivial⟩
      | 3 => cases e; exact ⟨_, rfl, trivial⟩
      | i + 4 => cases e
    · match i with
      | 0 => cases e1; exact w1
      | 1 => cases e1; exact w1
      | 2 => cases e1; exact w1
      | 3 => cases e1; exact w1
      | i + 4 => cases e1
  have ev1 : EvD (tLc (iList K (tVar 0)) (gName 3) tYes (tCB (fun xs H Q => ∃ i, xs = [V.int i] ∧ Q (V.int (if i < 0 then -i else i)) H) (tCons (tVar 3) tNil)) [3]) [.dat (eIs (ns.take 60)), .non, .non, .non] (eIs ((ns.take 60).map fun i => if i < 0 then -i else i)) := by
    refine ev_is (el_d (el_map (ns.take 60) PyData.int (fun i => .int (if i < 0 then -i else i)) (ei_list (ev_var rfl)) (by omega) rfl fun i hi => ⟨_, _, eg_name, rfl, ev_cb (ea_cons (ev_var (d := .int i) rfl) ea_nil) ca_abs⟩)) ?_
    rw [eIs, List.map_map]; rfl
  obtain ⟨as, eas⟩ : ∃ as, as = (ns.take 60).map fun i => if i < 0 then -i else i := ⟨_, rfl⟩
  have las : as.length ≤ 60 := by rw [eas, List.length_map]; exact l60
  rw [← eas] at ev1
  -- behind the first statement
  have rest : ∀ (v : V) (k2 H2 : Hp), Le (fun _ => none) H k2 H2 → Dq k2 v (eIs as) → ∀ (t : TS), t = tSeq (tFor (iList K (tVar 1)) (gName 3) (tAsg (drM (tInt (tCons (tOp (rI0 fun i j => V.int (i + j)) (tOp (rI0 fun i j => V.int (i + j)) (tOp (rI CMul fun i j => V.int (i * j)) (tVar 2) (tC (V.int 69621))) (drM (tInt (tCons (tVar 3) tNil)) (tC (V.int 2147483543)))) (tC (V.int 31))) tNil)) (tC (V.int 2147483647))) (gName 2)))
      (tRet (tLst (tCons (tRevL K (tLc (iList K (tVar 1)) (gName 3) (tTest (tOp (rI0 fun i j => V.bl (decide (j ≤ i))) (tVar 3) (tOp (rI CPow fun i j => V.int (i ^ j.toNat)) (tC (V.int 10)) (tC (V.int 18))))) (tVar 3) [3])) (tCons (tVar 2) tNil)))) → t { nx := fun x H' => Q V.non H', rt := Q } [some (.ref p), some v, some (.int 70249), none] H2 := by
    intro v k2 H2 l2 rv t et
    subst et
    have E2 : Env k2 H2 [some (.ref p), some v, some (.int 70249), none] [.non, .dat (eIs as), .dat (.int 70249), .non] := by
      refine ⟨rfl, fun i sl e => ?_, fun i j sl t v u ij e1 e2 f1 f2 x w1 w2 => ?_⟩
      · match i with
        | 0 => cases e; exact ⟨_, rfl, trivial⟩
        | 1 => cases e; exact ⟨_, rfl, _, rfl, rv⟩
        | 2 => cases e; exact ⟨_, rfl, _, rfl, .int _⟩
        | 3 => cases e; exact ⟨_, rfl, trivial⟩
        | i + 4 => cases e
      · match i with
        | 0 => cases e1; exact w1
        | 1 => cases e1; exact w1
        | 2 => cases e1; exact w1
        | 3 => cases e1; exact w1
        | i + 4 => cases e1
    have own2 : OwnM M0 H2 [some (.ref p), some v, some (.int 70249), none] [.non, .dat (eIs as), .dat (.int 70249), .non] := fun i sl w e1 _ => by
      match i with
      | 0 => cases e1; trivial
      | 1 => cases e1; trivial
      | 2 => cases e1; trivial
      | 3 => cases e1; trivial
      | i + 4 => cases e1
    have loop : Run (tFor (iList K (tVar 1)) (gName 3) (tAsg (drM (tInt (tCons (tOp (rI0 fun i j => V.int (i + j)) (tOp (rI0 fun i j => V.int (i + j)) (tOp (rI CMul fun i j => V.int (i * j)) (tVar 2) (tC (V.int 69621))) (drM (tInt (tCons (tVar 3) tNil)) (tC (V.int 2147483543)))) (tC (V.int 31))) tNil)) (tC (V.int 2147483647))) (gName 2))) [.non, .dat (eIs as), .dat (.int 70249), .non] { nx := fun Γ => ∃ z u, Γ = [.non, .dat (eIs as), .dat (.int z), u] ∧ plainAt [u] 0 = true } := by
      refine run_for (ei_list (ds := as.map PyData.int) (ev_var rfl)) (fun _ Γ => ∃ z u, Γ = [.non, .dat (eIs as), .dat (.int z), u] ∧ plainAt [u] 0 = true) ⟨_, _, rfl, rfl⟩ (fun i d Γi ed hI => ?_) (fun Γn hI => hI)
      obtain ⟨z, u, rfl, hu⟩ := hI
      obtain ⟨y, ey, rfl⟩ := map_at ed
      refine ⟨_, _, eg_name, ?_⟩
      exact run_set (ev_op (ev_cb (ea_cons (ev_op (ev_op (ev_op (ev_var (d := .int z) rfl) ev_int (op_iC (.inr ⟨by decide, by decide⟩))) (ev_op (ev_cb (ea_cons (ev_var (d := .int y) rfl) ea_nil) ca_int) ev_int (op_mod' (by decide))) op_ii) ev_int op_ii) ea_nil) ca_int) ev_int (op_mod' (by decide))) ⟨_, _, rfl, rfl⟩
    refine loop M0 k2 H2 k2 H2 _ (.refl l2.kh) own2 E2 _ ⟨fun Γ k3 H3 σ w l3 _ E3 => ?_, fun _ _ _ _ _ _ z => z.elim, fun _ _ _ _ z => z.elim, fun _ _ _ _ z => z.elim⟩
    obtain ⟨z, u, rfl, hu⟩ := w
    have ev2 : EvD (tLc (iList K (tVar 1)) (gName 3) (tTest (tOp (rI0 fun i j => V.bl (decide (j ≤ i))) (tVar 3) (tOp (rI CPow fun i j => V.int (i ^ j.toNat)) (tC (V.int 10)) (tC (V.int 18))))) (tVar 3) [3]) [.non, .dat (eIs as), .dat (.int z), u] (eIs (as.filter fun x => decide (((10 : Int) ^ (18 : Int).toNat) ≤ x))) :=
      el_d (el_lc as PyData.int (fun x => decide (((10 : Int) ^ (18 : Int).toNat) ≤ x)) PyData.int (ei_list (ev_var rfl)) (by omega) (by show (plainAt _ 3 && true) = true; rw [plain1 (j := 3) hu rfl]; rfl) fun x hx => ⟨_, _, eg_name, rfl, et_test (ev_op (ev_var (d := .int x) rfl) (ev_op ev_int ev_int (op_iC ⟨by decide, by decide, by decide⟩)) op_ib), fun _ => ev_var rfl⟩)
    refine' (fun key : tLc (iList K (tVar 1)) (gName 3) (tTest (tOp (rI0 fun i j => V.bl (decide (j ≤ i))) (tVar 3) (tOp (rI CPow fun i j => V.int (i ^ j.toNat)) (tC (V.int 10)) (tC (V.int 18))))) (tVar 3) [3] σ H3 (fun v H => ∃ a xs, v = .ref a ∧ SqL K H a xs ∧ ∀ p, H p = none → ∃ u, σ[2]? = some (some u) ∧ ([.ref p, u] : List V).length ≤ sizeLine ∧ ∀ r, upd H p (.lst xs.reverse) r = none → Q (.ref r) (upd (upd H p (.lst xs.reverse)) r (.lst [.ref p, u]))) => key) ?_
    refine ev2 k3 H3 σ l3.kh E3 _ fun v4 k4 H4 l4 r4 => ?_
    obtain ⟨b, xs, rfl, eb, rx⟩ := r4.list_inv
    have exs := rx.ints
    refine ⟨b, xs, rfl, .inl (.inl (l4.kh _ _ eb)), fun c hc => ?_⟩
    have ez : σ[2]? = some (some (.int z)) := by
      obtain ⟨u', e1, r⟩ := E3.dat (i := 2) (d := .int z) rfl
      rw [e1, r.int_inv]
    refine ⟨.int z, ez, by show 2 ≤ sizeLine; decide, fun a ha => ?_⟩
    have ac : a ≠ c := fun e => by rw [e, upd_same] at ha; cases ha
    have ha4 : H4 a = none := by rw [upd_ne ac] at ha; exact ha
    have lf := (l2.trans (l3.trans l4))
    have g1 : Same H4 (upd (upd H4 c (.lst xs.reverse)) a (.lst [.ref c, .int z])) := (same_new hc).trans (same_new ha)
    refine hQ a c k4 _ (lf.trans (Le.grow l4.kh g1)) ⟨⟨(as.filter fun x => decide (((10 : Int) ^ (18 : Int).toNat) ≤ x)).reverse, z, upd_same, ?_, ?_⟩, l4.kh.free ha4, l4.kh.free hc, ac⟩
    · rw [upd_ne ac.symm, upd_same, exs, ← List.map_reverse]
    · rw [List.length_reverse]; exact Nat.le_trans (List.length_filter_le _ _) las
  obtain ⟨u, eu, q', ep, hx, hrest⟩ := ev1 _ _ _ k1.kh E1 (fun v H2 => ∃ k2, Le (fun _ => none) H k2 H2 ∧ Dq k2 v (eIs as)) fun v k2 H2 l2 rv => ⟨k2, k1.trans l2, rv⟩
  have eq' : q' = q := by
    have := Option.some.inj (Option.some.inj eu)
    rw [ep] at this
    exact (V.ref.inj this).symm
  subst eq'
  intro D hD
  obtain ⟨W, hW0, hstep⟩ := hrest D hD
  refine ⟨W, hW0, fun i m H1 w1 => ?_⟩
  rcases hstep i m H1 w1 with ⟨h1, k2, l2, rv⟩ | ⟨go, Nx, hN, hy⟩
  · exact .inl ⟨h1, _, _, rfl, rest _ k2 H1 l2 rv _ rfl⟩
  · exact .inr ⟨go, Nx, hN, fun x H' y => ⟨rfl, (hy x H' y).2⟩⟩
end
end Bx
namespace Bx
open PySem PySem.Spec L2 PyProof.Rows
def fins (r : OI) : List Int := [r.1, r.2].filterMap id
structure Co.Ok (c : Co) : Prop where
  ia : IOk c.a
  ib : IOk c.b
  ka : ∀ e ∈ fins c.a, e ∈ c.ks
  kb : ∀ e ∈ fins c.b, e ∈ c.ks
  hc : c.cut ∈ c.ks
  sm : ∀ e ∈ c.ks, Sm e
  kl : c.ks.length ≤ 5
structure Good (s : Int) (cs : List Co) : Prop where
  two : Two s cs
  ea : Ends s (cs.map Co.a)
  pa : Pts s (cs.map Co.a) (cs.map (Co.t s))
  ca : ∀ i c, cs[i]? = some c → ∃ d, Cut s (cs.map Co.a) (cs.map (Co.t s)) i c.cut d
  cb : ∀ i c, cs[i]? = some c → ∃ d, Cut s (cs.map Co.b) (cs.map (Co.t s)) i c.cut d
  fr : BoxRight s (some (List.replicate cs.length (none, none))) (cs.map (Co.t s)) (cs.map Co.T)
def GoodAll : Prop := ∀ s cs, SOk s → 1 ≤ cs.length → cs.length ≤ 6 → (∀ c ∈ cs, c.Ok) → Good s cs
theorem fins_len (r : OI) : (fins r).length ≤ 2 := by obtain ⟨a, b⟩ := r; cases a <;> cases b <;> exact Nat.le_of_ble_eq_true rfl
theorem fins_sm {r : OI} (h : IOk r) : ∀ e ∈ fins r, Sm e := by
  obtain ⟨a, b⟩ := r
  intro e he
  cases a with
  | none => cases b with
    | none => cases he
    | some y => obtain rfl : e = y := by simpa [fins] using he
                exact h.hi _ rfl
  | some x => cases b with
    | none => obtain rfl : e = x := by simpa [fins] using he
              exact h.lo _ rfl
    | some y =>
      have : e = x ∨ e = y := by simpa [fins] using he
      rcases this with rfl | rfl
      · exact h.lo _ rfl
      · exact h.hi _ rfl
theorem fins_map (r : OI) : (([r.1, r.2].filter Option.isSome).map eI) = (fins r).map PyData.int := by obtain ⟨a, b⟩ := r; cases a <;> cases b <;> rfl
section
variable {A : Prop} {Γ : Ge} {ta tb te tc : TE} {t u : TT} {a b d : PyData} {ds es : List PyData} {targ : TA} {K : PySem.W.Frag} {ts tw : TS} {P : Pst} {g : TG}
theorem run_ifS {S : Bool → Prop} (h : EvST A t Γ S) (h1 : S true → Run ts Γ P) (h2 : S false → Run tw Γ P) : Run (tIfS t ts tw) Γ P := fun M k0 h0 k hp σ l o E D q =>
  h _ k hp σ l.kh E (fun _ => own_hp o E) _ fun b k' h' l' E' w => by
    cases b with
    | true => exact h1 w M k0 h0 k' h' σ (l.behind l') o E' D q
    | false => exact h2 w M k0 h0 k' h' σ (l.behind l') o E' D q
theorem evst_not {S : Bool → Prop} (h : EvST A t Γ fun b => S (!b)) : EvST A (tNot t) Γ S := fun M k hp σ s E m Q q => h M k hp σ s E m _ fun b k' h' l E' w => q _ k' h' l E' w
theorem evst_or {S : Bool → Prop} (h : EvST A t Γ fun b => (b = true → S true) ∧ (b = false → EvST A u Γ S)) : EvST A (tOr t u) Γ S := fun M k hp σ s E m Q q => h M k hp σ s E m _ fun b k' h' l E' w => by
  cases b with
  | true => exact q true k' h' l E' (w.1 rfl)
  | false => exact w.2 rfl M k' h' σ l.kh E' m Q fun b k2 h2 l2 E2 w2 => q b k2 h2 (l.trans l2) E2 w2
theorem ow_set {Γ : Ge} {σ : L2.St} {p p1 : Addr} {i : Nat} (h : ∀ (j : Nat) s v, Γ[j]? = some s → σ[j]? = some v → ¬ Owns s v p) (ne : p1 ≠ p) : ∀ (j : Nat) s v, (Γ.set i (.mu []))[j]? = some s → (σ.set i (some (.ref p1)))[j]? = some v → ¬ Owns s v p := fun j s v e1 e2 ow => by
  by_cases hj : i = j
  · subst hj
    by_cases hl : i < Γ.length
    · rw [List.getElem?_set_self hl] at e1; cases e1
      by_cases hk : i < σ.length
      · rw [List.getElem?_set_self hk] at e2; cases e2
        exact ne (V.ref.inj (Option.some.inj ow))
      · rw [List.getElem?_eq_none (by rw [List.length_set]; omega)] at e2; cases e2
    · rw [List.getElem?_eq_none (by rw [List.length_set]; omega)] at e1; cases e1
  · rw [List.getElem?_set_ne hj] at e1 e2
    exact h j s v e1 e2 ow
/-- a, b, c, d = [], [], [], [] -/
theorem run_mu4 {i1 i2 i3 i4 : Nat} (w : P.nx ((((Γ.set i1 (.mu [])).set i2 (.mu [])).set i3 (.mu [])).set i4 (.mu []))) :
    Run (tAsg (tTup (tCons (tLst tNil) (tCons (tLst tNil) (tCons (tLst tNil) (tCons (tLst tNil) tNil))))) (gTup K 4 (gCons (gName i1) (gCons (gName i2) (gCons (gName i3) (gCons (gName i4) gNil)))))) Γ P := fun M k0 h0 k hp σ l o E D q => by
  refine ⟨Nat.zero_le _, fun p1 n1 => ⟨Nat.zero_le _, fun p2 n2 => ⟨Nat.zero_le _, fun p3 n3 => ⟨Nat.zero_le _, fun p4 n4 => ⟨by show 4 ≤ sizeLine; decide, fun p5 n5 => ⟨p5, _, rfl, .inl (.inl upd_same), rfl, _, _, rfl, _, _, rfl, _, _, rfl, _, _, rfl, rfl, ?_⟩⟩⟩⟩⟩⟩
  have s1 := same_new (o := HO.lst []) n1
  have s2 := same_new (o := HO.lst []) n2
  have s3 := same_new (o := HO.lst []) n3
  have s4 := same_new (o := HO.lst []) n4
  have s5 := same_new (o := HO.tup [.ref p1, .ref p2, .ref p3, .ref p4]) n5
  have f2 := s1.free n2
  have f3 := s1.free (s2.free n3)
  have f4 := s1.free (s2.free (s3.free n4))
  have d12 : p1 ≠ p2 := ne_of_none upd_same n2
  have d13 : p1 ≠ p3 := ne_of_none (s2 _ _ upd_same) n3
  have d23 : p2 ≠ p3 := ne_of_none upd_same n3
  have d14 : p1 ≠ p4 := ne_of_none (s3 _ _ (s2 _ _ upd_same)) n4
  have d24 : p2 ≠ p4 := ne_of_none (s3 _ _ upd_same) n4
  have d34 : p3 ≠ p4 := ne_of_none upd_same n4
  have sAll := s1.trans (s2.trans (s3.trans (s4.trans s5)))
  have le := Le.grow l.kh sAll
  have E1 := (E.le le).setM i1 (l.kh.free n1) (s5 _ _ (s4 _ _ (s3 _ _ (s2 _ _ upd_same)))) .nil (ow_new E n1)
  have E2 := E1.setM i2 (l.kh.free f2) (s5 _ _ (s4 _ _ (s3 _ _ upd_same))) .nil (ow_set (ow_new E f2) d12)
  have E3 := E2.setM i3 (l.kh.free f3) (s5 _ _ (s4 _ _ upd_same)) .nil (ow_set (ow_set (ow_new E f3) d13) d23)
  have E4 := E3.setM i4 (l.kh.free f4) (s5 _ _ upd_same) .nil (ow_set (ow_set (ow_set (ow_new E f4) d14) d24) d34)
  have ob : ∀ {p : Addr}, hp p = none → OwnOk M h0 (.mu []) (some (.ref p)) := fun n c e => by cases e; exact back_none l n
  exact q.nx _ k _ _ w (l.then le) (own_set (own_set (own_set (own_set o i1 _ _ (ob n1)) i2 _ _ (ob f2)) i3 _ _ (ob f3)) i4 _ _ (ob f4)) E4
theorem ev_tup2 (h1 : EvD ta Γ a) (h2 : EvD tb Γ b) : EvD (tTup (tCons ta (tCons tb tNil))) Γ (.tuple [a, b]) := ev_tup (ea_cons h1 (ea_cons h2 ea_nil)) (Nat.le_of_ble_eq_true rfl)
end
end Bx
namespace Bx
open PySem PySem.Spec L2 PyProof.Rows
def scales : List Int := [1, 1, 2, 3, 4, 6, 12, 35, 999999937, 1000000000]
def sizes : List Int := [1, 2, 2, 3, 3, 3, 4, 2, 4, 5, 6]
theorem scale_ok {s : Int} (h : s ∈ scales) : SOk s := by
  have : ∀ x ∈ scales, 0 < x ∧ x ≤ 1000000000 := by decide
  exact this s h
theorem size_ok {s : Int} (h : s ∈ sizes) : 1 ≤ s ∧ s ≤ 6 := by
  have : ∀ x ∈ sizes, 1 ≤ x ∧ x ≤ 6 := by decide
  exact this s h
theorem SqL.sm {K : PySem.W.Frag} {H H' : Hp} {p : Addr} {xs : List V} (s : Same H H') (h : SqL K H p xs) : SqL K H' p xs := by
  rcases h with (h | ⟨o, h⟩) | h
  · exact .inl (.inl (s _ _ h))
  · exact .inl (.inr ⟨o, s _ _ h⟩)
  · exact .inr h
local macro_rules | `(tactic| walk_at "ev") => `(tactic| repeat' (first
  | with_reducible exact ev_int
  | ((with_reducible apply ev_var); exact rfl)
  | with_reducible exact ev_non
  | with_reducible exact ev_bl
  | with_reducible exact ev_str
  | with_reducible exact ea_nil
  | with_reducible apply ea_cons
  | with_reducible apply et_test
  | with_reducible apply et_B
  | with_reducible exact et_yes
  | with_reducible apply ev_op
  | with_reducible exact op_ii
  | with_reducible exact op_ib
  | ((with_reducible apply op_ixT); exact rfl)
  | ((with_reducible apply op_ixL); exact rfl)
  | with_reducible exact op_isN'
  | with_reducible exact op_notN'
  | ((with_reducible show OpD (fun x y H Q => y = _ ∧ _) _ _ _); first | exact op_isN' | exact op_notN')
  | with_reducible refine' ev_tup ?_ (Nat.le_of_ble_eq_true rfl)
  | with_reducible refine' ev_lst ?_ (Nat.le_of_ble_eq_true rfl)
  | with_reducible apply ev_call
  | with_reducible apply ev_calK
  | with_reducible apply ev_un
  | with_reducible exact un_i
  | with_reducible apply et_not
  | with_reducible apply ev_not
  | ((with_reducible apply op_iC); first | assumption | exact FOk.mul (by assumption) _)
  | with_reducible apply ev_cb
  | with_reducible exact ca_lenL'
  | with_reducible exact ca_lenT'
  | with_reducible exact ca_int
  | with_reducible exact ca_abs
  | with_reducible exact ca_tuple'
  | ((with_reducible apply ev_and))
  | ((with_reducible refine fun (hh : _ = _) => ?_); first | cases hh | skip)))
local macro_rules | `(tactic| walk_at "go") => `(tactic| ((all_goals (walk_at "ev")); (all_goals (try exact rfl))))
section
variable {P : Program} {w : World} {K : PySem.W.Frag} {mg : PySem.Str → Option Value} {base : Heap} {f : Addr} {fd : FuncData}
abbrev s_law : Stmt := topS 57
abbrev N_law : List PySem.Str := ["_law_script", "_law_heap_here", "_law_turn", "_law_scale", "_law_size", "_law_known", "_law_one", "_law_two", "_law_tests_here", "_law_cuts", "_law_at", "_law_first", "_law_near", "_law_second", "_law_cut", "_law_box", "_law_other", "_law_place", "_law_names", "_law_end_here", "_law_some"]
abbrev p_law : List PySem.Str := ["_law_script"]
theorem sc_law : FnScope N_law p_law (defScope s_law) := ⟨rfl, rfl, rfl, by decide +kernel, rfl, by decide +kernel, by decide +kernel⟩
def spLaw (K : PySem.W.Frag) : Sp := fun vs H Q _ => ∃ (p : Addr) (ns : List Int), vs = [.ref p] ∧ SqL K H p (ns.map V.int) ∧ ∀ H', Q (.bl true) H'
def bx1 : List Rf := [(some (0, 1), some (1, 2)), (none, some (3, 1))]
def bx2 : List Rf := [(some (1, 2), none), (some (3, 1), none)]
def bx3 : List Rf := [(some (2, 3), none), (none, none)]
def bx4 : List Rf := [(some (2, 3), some (2, 3)), (some (4, 1), none)]
theorem bok_of {b : List Rf} (h : b.length ≤ 100) (h2 : ∀ r ∈ b, (∀ f, r.1 = some f → 0 < f.2 ∧ f.2 ≤ 1000000000) ∧ ∀ f, r.2 = some f → 0 < f.2 ∧ f.2 ≤ 1000000000) : BOk b := ⟨h, fun r hr => h2 r hr⟩
theorem bk1 : BOk bx1 := ⟨by decide, fun r hr => by simp only [bx1, List.mem_cons, List.not_mem_nil, or_false] at hr; rcases hr with rfl | rfl <;> exact ⟨fun f e => by cases e <;> (show (0 : Int) < _ ∧ _; decide), fun f e => by cases e <;> (show (0 : Int) < _ ∧ _; decide)⟩⟩
theorem bk2 : BOk bx2 := ⟨by decide, fun r hr => by simp only [bx2, List.mem_cons, List.not_mem_nil, or_false] at hr; rcases hr with rfl | rfl <;> exact ⟨fun f e => by cases e <;> (show (0 : Int) < _ ∧ _; decide), fun f e => by cases e <;> (show (0 : Int) < _ ∧ _; decide)⟩⟩
theorem bk3 : BOk bx3 := ⟨by decide, fun r hr => by simp only [bx3, List.mem_cons, List.not_mem_nil, or_false] at hr; rcases hr with rfl | rfl <;> exact ⟨fun f e => by cases e <;> (show (0 : Int) < _ ∧ _; decide), fun f e => by cases e <;> (show (0 : Int) < _ ∧ _; decide)⟩⟩
theorem bk4 : BOk bx4 := ⟨by decide, fun r hr => by simp only [bx4, List.mem_cons, List.not_mem_nil, or_false] at hr; rcases hr with rfl | rfl <;> exact ⟨fun f e => by cases e <;> (show (0 : Int) < _ ∧ _; decide), fun f e => by cases e <;> (show (0 : Int) < _ ∧ _; decide)⟩⟩
theorem hv1 : belowF bx1 0 ((-1, 7) : Fr) = none := by decide +kernel
theorem hv2 : overF bx1 0 ((-1, 7) : Fr) = some bx1 := by decide +kernel
theorem hv3 : PyData.tuple [.none, eB bx1] = eHalf (halvesF bx1 0 ((-1, 7) : Fr)) := by show _ = PyData.tuple [eOB (belowF bx1 0 (-1, 7)), eOB (overF bx1 0 (-1, 7))]; rw [hv1, hv2]
theorem ok_law {C : Addr} (good : GoodAll) (F : Fun K "law" "law" s_law f fd) (B : Blt mg) (c__law_heap : Cal P w K mg base 1 "_law_heap" p__law_heap (spHeap K)) (c__law_draw : Cal P w K mg base 1 "_law_draw" p__law_draw (spS R__law_draw C__law_draw)) (c__law_pick : Cal P w K mg base 2 "_law_pick" p__law_pick (spS R__law_pick C__law_pick))
    (c__law_end : Cal P w K mg base 3 "_law_end" p__law_end (spS R__law_end C__law_end)) (c__law_range : Cal P w K mg base 4 "_law_range" p__law_range (spS R__law_range C__law_range))
    (c__law_shown : Cal P w K mg base 2 "_law_shown" p__law_shown (spD R__law_shown)) (c__law_tests : Cal P w K mg base 1 "_law_tests" p__law_tests (spD R__law_tests)) (c__law_fractions : Cal P w K mg base 2 "_law_fractions" p__law_fractions (spD R__law_fractions))
    (c__law_two_right : Cal P w K mg base 5 "_law_two_right" p__law_two_right (spD R__law_two_right)) (c__law_ends_right : CalG P w K mg base 2 "_law_ends_right" p__law_ends_right (spS R__law_ends_right C__law_ends_right)) (c__law_points_right : CalG P w K mg base 5 "_law_points_right" p__law_points_right (spS R__law_points_right C__law_points_right))
    (c__law_cut_right : Cal P w K mg base 4 "_law_cut_right" p__law_cut_right (spD R__law_cut_right)) (c__law_box_right : Cal P w K mg base 2 "_law_box_right" p__law_box_right (spD R__law_box_right)) (c_free_box : Cal P w K mg base 1 "free_box" p_free_box (spFree C)) (c_System : MakS P w K mg base 4 "System" C (spInit C))
    (c_common_box : Cal P w K mg base 3 "common_box" p_common_box (spD R_common_box)) (c_joined_box : Cal P w K mg base 4 "joined_box" p_joined_box (spD R_joined_box)) (c_halves : Cal P w K mg base 3 "halves" p_halves (spD R_halves)) :
    FnG P w K mg base 6 f fd p_law (spLaw K) := by
  have nd := sc_law.nd
  refine fnG_of F sc_law (fun vs H Q E ⟨p, ns, e, _⟩ => by rw [e]; rfl) fun cdv A outer s H vs Q E gu hr ⟨p, ns, e, hsq, hQ⟩ => ?_
  subst e
  refine ⟨_, (pss_cons (ps_set (i := 1) nd rfl (by first | exact .inl rfl | exact .inr rfl) (pe_calD c__law_heap hr (by decide) rfl (pa_cons (pv 0) pa_nil)))
      (pss_cons (ps_for PassesOwn.never rfl (pi_range1 rfl B.range (pa_cons (pe_op op_add pe_int (pe_callTy call_int1 rfl B.int (by decide +kernel) (pa_cons (pe_cmpR op_gt (pe_callB (k_len K rfl) rfl B.len (by decide +kernel) (pa_cons (pv 0) pa_nil)) pe_int (nomark _)) pa_nil))) pa_nil)) (pg_name (i := 2) nd rfl (by first | exact .inl rfl | exact .inr rfl)) (pss_cons (ps_set (i := 3) nd rfl (by first | exact .inl rfl | exact .inr rfl) (pe_calD c__law_pick hr (by decide) rfl (pa_cons (pv 1) (pa_cons (pe_lst (pa_cons pe_int (pa_cons pe_int (pa_cons pe_int (pa_cons pe_int (pa_cons pe_int (pa_cons pe_int (pa_cons pe_int (pa_cons pe_int (pa_cons pe_int (pa_cons (pe_op op_pow pe_int pe_int) pa_nil))))))))))) pa_nil))))
      (pss_cons (ps_par (i := 4) (j := 5) rfl nd rfl rfl (by decide) rfl rfl (pa_cons (pe_calD c__law_pick hr (by decide) rfl (pa_cons (pv 1) (pa_cons (pe_lst (pa_cons pe_int (pa_cons pe_int (pa_cons pe_int (pa_cons pe_int (pa_cons pe_int (pa_cons pe_int (pa_cons pe_int (pa_cons pe_int (pa_cons pe_int (pa_cons pe_int (pa_cons pe_int pa_nil)))))))))))) pa_nil))) (pa_cons (pe_lst pa_nil) pa_nil)) (by rfl))
      (pss_cons (ps_asg (pe_tup (pa_cons (pe_lst pa_nil) (pa_cons (pe_lst pa_nil) (pa_cons (pe_lst pa_nil) (pa_cons (pe_lst pa_nil) pa_nil))))) (kg_tup (n := 4) K rfl rfl (pgs_cons (pg_name (i := 6) nd rfl (by first | exact .inl rfl | exact .inr rfl)) (pgs_cons (pg_name (i := 7) nd rfl (by first | exact .inl rfl | exact .inr rfl)) (pgs_cons (pg_name (i := 8) nd rfl (by first | exact .inl rfl | exact .inr rfl)) (pgs_cons (pg_name (i := 9) nd rfl (by first | exact .inl rfl | exact .inr rfl)) pgs_nil))))))
      (pss_cons (ps_for PassesOwn.never rfl (pi_range1 rfl B.range (pa_cons (pv 4) pa_nil)) (pg_name (i := 10) nd rfl (by first | exact .inl rfl | exact .inr rfl)) (pss_cons (ps_set (i := 11) nd rfl (by first | exact .inl rfl | exact .inr rfl) (pe_calD c__law_range hr (by decide) rfl (pa_cons (pv 1) (pa_cons (pv 5) pa_nil))))
      (pss_cons (ps_setLc (i := 12) (own := [("_law_end_here", 19)]) rfl nd rfl rfl (sw_true rfl rfl rfl (by decide +kernel)) (ki_tup K rfl (pv 11)) (blkOk_by (by kernel_rfl)) (fun _ _ _ _ _ => (pg_name (i := 19) nd rfl (by first | exact .inl rfl | exact .inr rfl))) (fun _ _ _ _ _ => (pts_one (pt_cmpR op_notN (pv 19) pe_non (nomark _)))) (fun _ _ _ _ _ => (pv 19)))
      (pss_cons (ps_set (i := 13) nd rfl (by first | exact .inl rfl | exact .inr rfl) (pe_calD c__law_pick hr (by decide) rfl (pa_cons (pv 1) (pa_cons (pe_lst (pa_cons (pv 11) (pa_cons (pe_calD c__law_range hr (by decide) rfl (pa_cons (pv 1) (pa_cons (pv 12) pa_nil))) (pa_cons (pe_calD c__law_range hr (by decide) rfl (pa_cons (pv 1) (pa_cons (pv 12) pa_nil))) pa_nil)))) pa_nil))))
      (pss_cons (ps_set (i := 14) nd rfl (by first | exact .inl rfl | exact .inr rfl) (pe_calD c__law_pick hr (by decide) rfl (pa_cons (pv 1) (pa_cons (pe_op op_cat (pv 12) (pe_lst (pa_cons (pe_calD c__law_end hr (by decide) rfl (pa_cons (pv 1) (pa_cons (pv 12) pa_nil))) (pa_cons (pe_calD c__law_end hr (by decide) rfl (pa_cons (pv 1) (pa_cons (pv 12) pa_nil))) pa_nil)))) pa_nil))))
      (pss_cons (ps_set (i := 5) nd rfl (by first | exact .inl rfl | exact .inr rfl) (pe_op op_cat (pe_op op_cat (pv 12) (pe_lc (own := [("_law_end_here", 19)]) rfl nd (ki_tup K rfl (pv 13)) (blkOk_by (by kernel_rfl)) (fun _ _ _ _ _ => (pg_name (i := 19) nd rfl (by first | exact .inl rfl | exact .inr rfl))) (fun _ _ _ _ _ => (pts_one (pt_cmpR op_notN (pv 19) pe_non (nomark _)))) (fun _ _ _ _ _ => (pv 19)))) (pe_lst (pa_cons (pv 14) pa_nil))))
      (pss_cons (ps_expr (pe_bm PySem.F.plainAttrs_list PySem.F.slot_list_append PySem.F.type_list_append mt_append (pv 6) (pa_cons (pv 11) pa_nil)))
      (pss_cons (ps_expr (pe_bm PySem.F.plainAttrs_list PySem.F.slot_list_append PySem.F.type_list_append mt_append (pv 7) (pa_cons (pv 13) pa_nil)))
      (pss_cons (ps_expr (pe_bm PySem.F.plainAttrs_list PySem.F.slot_list_append PySem.F.type_list_append mt_append (pv 8) (pa_cons (pe_tup (pa_cons (pe_calD c__law_tests hr (by decide) rfl (pa_cons (pv 5) pa_nil)) (pa_cons (pe_calD c__law_fractions hr (by decide) rfl (pa_cons (pe_callB (k_sorted w rfl rfl) rfl B.sorted (by decide +kernel) (pa_cons (pe_callTy (k_set K w rfl rfl rfl) rfl B.set (by decide +kernel) (pa_cons (pv 5) pa_nil)) pa_nil)) (pa_cons (pv 3) pa_nil))) pa_nil))) pa_nil)))
      (pss_one (ps_expr (pe_bm PySem.F.plainAttrs_list PySem.F.slot_list_append PySem.F.type_list_append mt_append (pv 9) (pa_cons (pv 14) pa_nil)))))))))))))
      (pss_cons (ps_par (i := 15) (j := 16) rfl nd rfl rfl (by decide) rfl rfl (pa_cons (pe_calD c__law_shown hr (by decide) rfl (pa_cons (pv 6) (pa_cons (pv 3) pa_nil))) (pa_cons (pe_calD c__law_shown hr (by decide) rfl (pa_cons (pv 7) (pa_cons (pv 3) pa_nil))) pa_nil)) (by rfl))
      (pss_cons (ps_if (PW.pt (pw_or (pt_not (pt_val (pe_calD c__law_two_right hr (by decide) rfl (pa_cons (pv 6) (pa_cons (pv 7) (pa_cons (pv 15) (pa_cons (pv 16) (pa_cons (pv 8) (pa_cons (pv 3) pa_nil))))))))) (pw_or1 (pt_not (pt_val (pe_calG c__law_ends_right gu hr (by decide) rfl (pa_cons (pv 1) (pa_cons (pv 6) (pa_cons (pv 15) (pa_cons (pv 8) (pa_cons (pv 3) pa_nil))))))))))) (pss_one (ps_ret pe_bl)) pss_nil)
      (pss_cons (ps_if (pt_not (pt_val (pe_calG c__law_points_right gu hr (by decide) rfl (pa_cons (pv 1) (pa_cons (pv 6) (pa_cons (pv 15) (pa_cons (pv 8) (pa_cons (pv 3) pa_nil)))))))) (pss_one (ps_ret pe_bl)) pss_nil)
      (pss_cons (ps_par (i := 10) (j := 17) rfl nd rfl rfl (by decide) rfl rfl (pa_cons (pe_calD c__law_draw hr (by decide) rfl (pa_cons (pv 1) (pa_cons (pv 4) pa_nil))) (pa_cons (pe_calD c__law_draw hr (by decide) rfl (pa_cons (pv 1) (pa_cons (pv 4) pa_nil))) pa_nil)) (by rfl))
      (pss_cons (ps_if (PW.pt (pw_or (pt_not (pt_val (pe_calD c__law_cut_right hr (by decide) rfl (pa_cons (pv 6) (pa_cons (pv 15) (pa_cons (pv 8) (pa_cons (pv 3) (pa_cons (pv 10) (pa_cons (pe_ix (k_ixL K rfl) (pv 9) (pv 10) (fun _ _ => rfl)) pa_nil))))))))) (pw_or1 (pt_not (pt_val (pe_calD c__law_cut_right hr (by decide) rfl (pa_cons (pv 7) (pa_cons (pv 16) (pa_cons (pv 8) (pa_cons (pv 3) (pa_cons (pv 17) (pa_cons (pe_ix (k_ixL K rfl) (pv 9) (pv 17) (fun _ _ => rfl)) pa_nil)))))))))))) (pss_one (ps_ret pe_bl)) pss_nil)
      (pss_cons (ps_set (i := 18) nd rfl (by first | exact .inl rfl | exact .inr rfl) (pe_callTy (k_tuple K rfl) rfl B.tuple (by decide +kernel) (pa_cons (pe_lc (own := [("_law_at", 10)]) rfl nd (pi_range1 rfl B.range (pa_cons (pv 4) pa_nil)) (blkOk_by (by kernel_rfl)) (fun _ _ _ _ _ => (pg_name (i := 10) nd rfl (by first | exact .inl rfl | exact .inr rfl))) (fun _ _ _ _ _ => pts_nil) (fun _ _ _ _ _ => (pe_ix ix_str pe_str (pv 10) (fun _ _ => rfl)))) pa_nil)))
      (pss_one (ps_if (pt_not (pt_val (pe_calD c__law_box_right hr (by decide) rfl (pa_cons (pe_calD c_free_box hr (by decide) rfl (pa_cons (pe_mkS c_System hr (by decide) rfl (pa_cons (pv 18) (pa_cons (pe_tup pa_nil) pa_nil))) pa_nil)) (pa_cons (pv 8) (pa_cons (pe_lc (own := [("_law_some", 20)]) rfl nd (ki_list K rfl (pv 8)) (blkOk_by (by kernel_rfl)) (fun _ _ _ _ _ => (pg_name (i := 20) nd rfl (by first | exact .inl rfl | exact .inr rfl))) (fun _ _ _ _ _ => pts_nil) (fun _ _ _ _ _ => (pe_ix (k_ixT K rfl) (pv 20) pe_int (fun _ _ => rfl)))) (pa_cons (pv 3) pa_nil))))))) (pss_one (ps_ret pe_bl)) pss_nil)))))))))))))
      (pss_cons (ps_set (i := 15) nd rfl (by first | exact .inl rfl | exact .inr rfl) (pe_tup (pa_cons (pe_tup (pa_cons (pe_tup (pa_cons pe_int (pa_cons pe_int pa_nil))) (pa_cons (pe_tup (pa_cons pe_int (pa_cons pe_int pa_nil))) pa_nil))) (pa_cons (pe_tup (pa_cons pe_non (pa_cons (pe_tup (pa_cons pe_int (pa_cons pe_int pa_nil))) pa_nil))) pa_nil))))
      (pss_cons (ps_if (pt_cmpR (k_ne K rfl hr.units) (pe_calD c_common_box hr (by decide) rfl (pa_cons (pv 15) (pa_cons (pe_tup (pa_cons (pe_tup (pa_cons (pe_tup (pa_cons pe_int (pa_cons pe_int pa_nil))) (pa_cons pe_non pa_nil))) (pa_cons (pe_tup (pa_cons (pe_tup (pa_cons pe_int (pa_cons pe_int pa_nil))) (pa_cons pe_non pa_nil))) pa_nil))) pa_nil))) (pe_tup (pa_cons (pe_tup (pa_cons (pe_tup (pa_cons pe_int (pa_cons pe_int pa_nil))) (pa_cons (pe_tup (pa_cons pe_int (pa_cons pe_int pa_nil))) pa_nil))) (pa_cons (pe_tup (pa_cons (pe_tup (pa_cons pe_int (pa_cons pe_int pa_nil))) (pa_cons (pe_tup (pa_cons pe_int (pa_cons pe_int pa_nil))) pa_nil))) pa_nil))) (nomark _)) (pss_one (ps_ret pe_bl)) pss_nil)
      (pss_cons (ps_if (PW.pt (pw_or (pt_cmpR op_notN (pe_calD c_common_box hr (by decide) rfl (pa_cons (pv 15) (pa_cons (pe_tup (pa_cons (pe_tup (pa_cons (pe_tup (pa_cons pe_int (pa_cons pe_int pa_nil))) (pa_cons pe_non pa_nil))) (pa_cons (pe_tup (pa_cons pe_non (pa_cons pe_non pa_nil))) pa_nil))) pa_nil))) pe_non (nomark _)) (pw_or1 (pt_cmpR (k_ne K rfl hr.units) (pe_calD c_halves hr (by decide) rfl (pa_cons (pv 15) (pa_cons pe_int (pa_cons (pe_tup (pa_cons (pe_un un_neg pe_int) (pa_cons pe_int pa_nil))) pa_nil)))) (pe_tup (pa_cons pe_non (pa_cons (pv 15) pa_nil))) (nomark _))))) (pss_one (ps_ret pe_bl)) pss_nil)
      (pss_one (ps_ret (pe_cmpR (k_eq K rfl hr.units) (pe_calD c_joined_box hr (by decide) rfl (pa_cons (pv 15) (pa_cons (pe_tup (pa_cons (pe_tup (pa_cons (pe_tup (pa_cons pe_int (pa_cons pe_int pa_nil))) (pa_cons (pe_tup (pa_cons pe_int (pa_cons pe_int pa_nil))) pa_nil))) (pa_cons (pe_tup (pa_cons (pe_tup (pa_cons pe_int (pa_cons pe_int pa_nil))) (pa_cons pe_non pa_nil))) pa_nil))) pa_nil))) (pe_tup (pa_cons (pe_tup (pa_cons (pe_tup (pa_cons pe_int (pa_cons pe_int pa_nil))) (pa_cons (pe_tup (pa_cons pe_int (pa_cons pe_int pa_nil))) pa_nil))) (pa_cons (pe_tup (pa_cons pe_non (pa_cons pe_non pa_nil))) pa_nil))) (nomark _))))))))), ?_⟩
  refine ⟨.ref p, rfl, p, ns, rfl, hsq, fun a c k1 H1 l1 hat => ?_⟩
  have hsq1 : SqL K H1 p (ns.map V.int) := SqL.sm l1.same hsq
  have tr : ∀ (b r : TS), Run (tSeq (tFor (iRng1 (tCons (tC (.int (1 + if decide ((2 : Int) < ((ns.map V.int).length : Int)) = true then 1 else 0))) tNil)) (gName 2) b) r) (.non :: .hp a c :: List.replicate 19 .non) { rt := fun _ d => d = .bool true } →
      tSeq (tFor (iRng1 (tCons (tOp (rI0 fun i j => V.int (i + j)) (tC (V.int 1)) (tInt (tCons (tOp (rI0 fun i j => V.bl (decide (j < i))) (tCB (rLenK K) (tCons (tVar 0) tNil)) (tC (V.int 2))) tNil))) tNil)) (gName 2) b) r { nx := fun x H' => Q V.non H', rt := Q } (some (.ref p) :: some (.ref a) :: List.replicate 19 none) H1 := by
    intro b r hrun
    have n19 : ∀ {α : Type} {x y : α} {i : Nat}, (List.replicate 19 x)[i]? = some y → y = x ∧ i < 19 := fun {α x y i} e => by
      rw [List.getElem?_replicate] at e
      split at e
      · exact ⟨(Option.some.inj e).symm, by assumption⟩
      · cases e
    have En : Env k1 H1 (some (.ref p) :: some (.ref a) :: List.replicate 19 none) (.non :: .hp a c :: List.replicate 19 .non) := by
      refine ⟨rfl, fun i sl e => ?_, fun i j sl t v u ij e1 e2 f1 f2 x w1 w2 => ?_⟩
      · match i with
        | 0 => cases e; exact ⟨_, rfl, trivial⟩
        | 1 => cases e; exact ⟨_, rfl, rfl, hat⟩
        | i + 2 =>
          have e : (List.replicate 19 Sl.non)[i]? = some sl := e
          obtain ⟨rfl, hi⟩ := n19 e
          exact ⟨none, by show (List.replicate 19 none)[i]? = some none; rw [List.getElem?_replicate, if_pos hi], trivial⟩
      · have key : ∀ (i : Nat) sl v x, (Sl.non :: Sl.hp a c :: List.replicate 19 Sl.non)[i]? = some sl → Owns sl v x → i = 1 := fun i sl v x e w => by
          match i with
          | 0 => cases e; exact w.elim
          | 1 => rfl
          | i + 2 =>
            have e : (List.replicate 19 Sl.non)[i]? = some sl := e
            obtain ⟨rfl, hi⟩ := n19 e
            exact w.elim
        exact ij ((key i sl v x e1 w1).trans (key j t u x e2 w2).symm)
    have ow : OwnM (fun q => q = a ∨ q = c) H1 (some (.ref p) :: some (.ref a) :: List.replicate 19 none) (.non :: .hp a c :: List.replicate 19 .non) := fun i sl v e _ => by
      match i with
      | 0 => cases e; trivial
      | 1 => cases e; exact ⟨.inl rfl, .inr rfl⟩
      | i + 2 =>
        have e : (List.replicate 19 Sl.non)[i]? = some sl := e
        obtain ⟨rfl, hi⟩ := n19 e
        trivial
    have h := hrun (fun q => q = a ∨ q = c) k1 H1 k1 H1 _ (.refl l1.kh) ow En { nx := fun x H' => Q V.non H', rt := Q } ⟨fun _ _ _ _ z => z.elim, fun Γ d v k2 h2 σ z _ _ _ rv => by
      have z : d = .bool true := z
      subst z
      rw [rv.bool_inv]
      exact hQ _, fun _ _ _ _ z => z.elim, fun _ _ _ _ z => z.elim⟩
    exact ⟨.ref p, rfl, p, _, rfl, .inl hsq1, _, 2, rfl, rfl, .inr ⟨_, rfl, 1, _, rfl, rfl, h⟩⟩
  refine tr _ _ ?_
  have m2 : (0 : Int) ≤ (1 + if decide ((2 : Int) < ((ns.map V.int).length : Int)) = true then 1 else 0) ∧ (1 + if decide ((2 : Int) < ((ns.map V.int).length : Int)) = true then 1 else 0) ≤ (100000 : Int) := by split <;> omega
  refine' run_seq (run_for (ei_range1 (ea_cons ev_int ea_nil) m2.1 m2.2) (fun _ Γ => ∃ u2 u3 u4 u5 u6 u7 u8 u9 u10 u11 u12 u13 u14 u15 u16 u17 u18, plainAt [u10] 0 = true ∧ Γ = [.non, .hp a c, u2, u3, u4, u5, u6, u7, u8, u9, u10, u11, u12, u13, u14, u15, u16, u17, u18, .non, .non]) ⟨_, _, _, _, _, _, _, _, _, _, _, _, _, _, _, _, _, rfl, rfl⟩ (fun i d Γi ed hI => ?_) (fun Γn hI => ?_))
  · obtain ⟨u2, u3, u4, u5, u6, u7, u8, u9, u10, u11, u12, u13, u14, u15, u16, u17, u18, pu, rfl⟩ := hI
    refine ⟨_, _, eg_name, ?_⟩
    -- the scale
    refine' run_seq (run_setS (A := True) (evs_call (x := a) (c := c) rfl trivial (evsa_a (ds := [eIs scales]) (ea_cons (ev_is (ev_lst (ea_cons ev_int (ea_cons ev_int (ea_cons ev_int (ea_cons ev_int (ea_cons ev_int (ea_cons ev_int (ea_cons ev_int (ea_cons ev_int (ea_cons ev_int (ea_cons (ev_op ev_int ev_int (op_iC ⟨by decide, by decide, by decide⟩)) ea_nil)))))))))) (Nat.le_of_ble_eq_true rfl)) rfl) ea_nil) ⟨⟨scales.map PyData.int, fun e => (nomatch e), by decide, rfl⟩, fun d' hR => ?_⟩)))
    obtain ⟨xs, e, hd⟩ := hR
    have e : xs = scales.map PyData.int := by cases e; rfl
    subst e
    obtain ⟨sc, hsc, rfl⟩ := List.mem_map.mp hd
    have sok := scale_ok hsc
    -- the size
    refine' run_seq (run_par (A := True) (esa_cons (evs_call (x := a) (c := c) rfl trivial (evsa_a (ds := [eIs sizes]) (ea_cons (ev_is (ev_lst (ea_cons ev_int (ea_cons ev_int (ea_cons ev_int (ea_cons ev_int (ea_cons ev_int (ea_cons ev_int (ea_cons ev_int (ea_cons ev_int (ea_cons ev_int (ea_cons ev_int (ea_cons ev_int ea_nil))))))))))) (Nat.le_of_ble_eq_true rfl)) rfl) ea_nil) ⟨⟨sizes.map PyData.int, fun e => (nomatch e), by decide, rfl⟩, fun d' hR => ?_⟩))))
    obtain ⟨xs, e, hd⟩ := hR
    have e : xs = sizes.map PyData.int := by cases e; rfl
    subst e
    obtain ⟨zn, hzn, rfl⟩ := List.mem_map.mp hd
    have nok := size_ok hzn
    obtain ⟨n, rfl⟩ := Int.eq_ofNat_of_zero_le (by omega : 0 ≤ zn)
    refine esa_cons (evs_d (ev_lst ea_nil (Nat.zero_le _)) (esa_nil ⟨_, _, rfl, ?_⟩))
    refine' run_seq (run_mu4 ?_)
    refine' run_seq (run_for (ei_range1 (n := (n : Int)) (ea_cons (ev_var rfl) ea_nil) (by omega) (by omega)) (fun i Γ => ∃ (cs : List Co) (ks : List Int), cs.length = i ∧ (∀ c ∈ cs, c.Ok) ∧ ks.length ≤ 5 ∧ (∀ k ∈ ks, Sm k) ∧ ∃ u2 u10 u11 u12 u13 u14 u15 u16 u17 u18, plainAt [u10] 0 = true ∧ Γ = [.non, .hp a c, u2, .dat (.int sc), .dat (.int (n : Nat)), .dat (eIs ks), .mu ((cs.map Co.a).map eOI), .mu ((cs.map Co.b).map eOI), .mu ((cs.map (Co.t sc)).map eT), .mu ((cs.map Co.cut).map PyData.int), u10, u11, u12, u13, u14, u15, u16, u17, u18, .non, .non]) ⟨[], [], rfl, fun _ z => (by cases z), Nat.zero_le _, fun _ z => (by cases z), _, _, _, _, _, _, _, _, _, _, pu, rfl⟩ (fun j d Γj ed hJ => ?_) (fun Γn hJ => ?_))
    · obtain ⟨cs, ks, hcs, ok, lks, sks, u2, u10, u11, u12, u13, u14, u15, u16, u17, u18, pu, rfl⟩ := hJ
      obtain ⟨at', eat, rfl⟩ := map_at ed
      have hj : j < n := by have := (List.getElem?_eq_some_iff.mp eat).1; simpa using this
      have lcs : cs.length ≤ 6 := by omega
      refine ⟨_, _, eg_name, ?_⟩
      refine' run_seq (run_setS (A := True) (evs_call (x := a) (c := c) rfl trivial (evsa_a (ds := [eIs ks]) (ea_cons (ev_var rfl) ea_nil) ⟨⟨ks, by omega, sks, rfl⟩, fun d' hR => ?_⟩)))
      obtain ⟨r1, rfl, i1⟩ := hR
      have s1 := fins_sm i1
      have near : ∀ {Γ : Ge} {j : Nat} {r : OI}, Γ[j]? = some (.dat (eOI r)) → Γ[19]? = some .non → EvD (tLc (iTup K (tVar j)) (gName 19) (tTest (tOp (fun x y H Q => y = V.non ∧ Q (V.bl !decide (x = V.non)) H) (tVar 19) (tC V.non))) (tVar 19) [19]) Γ (eIs (fins r)) := fun {Γ j r} g g19 => by
        have l19 : 19 < Γ.length := (List.getElem?_eq_some_iff.mp g19).1
        have q19 : ∀ d : PyData, (List.set (Γ.set 19 .non) 19 (.dat d))[19]? = some (.dat d) := fun d => List.getElem?_set_self (by rw [List.length_set]; exact l19)
        refine ev_is (el_d (el_lc [r.1, r.2] eI Option.isSome eI (ei_tup (ds := [eI r.1, eI r.2]) (ev_var g)) (Nat.le_of_ble_eq_true rfl) (by show (plainAt Γ 19 && true) = true; unfold plainAt; rw [g19]; rfl) fun o ho => ⟨_, _, eg_name, rfl, et_is (et_test (ev_op (ev_var (q19 _)) ev_non op_notN')) ?_, fun _ => ev_var (q19 _)⟩)) (congrArg PyData.list (fins_map r))
        rw [isNone_I]; cases o <;> rfl
      refine' run_seq (run_set (near rfl rfl) ?_)
      have l1f := fins_len r1
      -- the second
      refine' run_seq (run_setS (A := True) (evs_call (x := a) (c := c) rfl trivial (esa_cons (evs_lst (esa_cons (evs_d (ev_var (d := eOI r1) rfl) (esa_cons (evs_call (x := a) (c := c) rfl trivial (evsa_a (ds := [eIs (fins r1)]) (ea_cons (ev_var rfl) ea_nil) ⟨⟨fins r1, by omega, s1, rfl⟩, fun d1 h1 => ?_⟩)))))))))
      obtain ⟨r2, rfl, i2⟩ := h1
      refine' esa_cons (evs_call (x := a) (c := c) rfl trivial (evsa_a (ds := [eIs (fins r1)]) (ea_cons (ev_var rfl) ea_nil) ⟨⟨fins r1, by omega, s1, rfl⟩, fun d2 h2 => ?_⟩))
      obtain ⟨r3, rfl, i3⟩ := h2
      refine esa_nil ⟨by show 3 ≤ 1000; decide, esa_nil ⟨⟨[eOI r1, eOI r2, eOI r3], fun e => (nomatch e), by show 3 ≤ 1000; decide, rfl⟩, fun d' hR => ?_⟩⟩
      obtain ⟨r, rfl, ir⟩ : ∃ r, d' = eOI r ∧ IOk r := by
        obtain ⟨xs, e, hd⟩ := hR
        have e : xs = [eOI r1, eOI r2, eOI r3] := by cases e; rfl
        subst e
        simp only [List.mem_cons, List.not_mem_nil, or_false] at hd
        rcases hd with rfl | rfl | rfl
        · exact ⟨_, rfl, i1⟩
        · exact ⟨_, rfl, i2⟩
        · exact ⟨_, rfl, i3⟩
      have sr := fins_sm ir
      -- the cut
      refine' run_seq (run_setS (A := True) (evs_call (x := a) (c := c) rfl trivial (esa_cons (evs_op (evs_d (ev_var (d := eIs (fins r1)) rfl) (evs_lst (esa_cons (evs_call (x := a) (c := c) rfl trivial (evsa_a (ds := [eIs (fins r1)]) (ea_cons (ev_var rfl) ea_nil) ⟨⟨fins r1, by omega, rfl⟩, fun d1 h1 => ?_⟩)))))))))
      obtain ⟨ks1, e1, e, rfl, m1⟩ := h1
      have e := eIs_inj (List.cons.inj e).1
      subst e
      have m1 : Sm e1 := m1.elim (s1 e1) id
      refine' esa_cons (evs_call (x := a) (c := c) rfl trivial (evsa_a (ds := [eIs (fins r1)]) (ea_cons (ev_var rfl) ea_nil) ⟨⟨fins r1, by omega, rfl⟩, fun d1 h1 => ?_⟩))
      obtain ⟨ks1, e2, e, rfl, m2'⟩ := h1
      have e := eIs_inj (List.cons.inj e).1
      subst e
      have m2' : Sm e2 := m2'.elim (s1 e2) id
      refine esa_nil ⟨by show 2 ≤ 1000; decide, eIs (fins r1 ++ [e1, e2]), ?_, esa_nil ⟨⟨(fins r1 ++ [e1, e2]).map PyData.int, fun e => ?_, ?_, rfl⟩, fun d' hR => ?_⟩⟩
      · have e9 : eIs (fins r1 ++ [e1, e2]) = .list ((fins r1).map PyData.int ++ [.int e1, .int e2]) := by rw [eIs, List.map_append]; rfl
        rw [e9]
        exact op_catl (by rw [List.length_map]; show _ + 2 ≤ _; omega)
      · simp at e
      · rw [List.length_map, List.length_append]; show _ + 2 ≤ _; omega
      obtain ⟨ct, rfl, hct⟩ : ∃ ct, d' = .int ct ∧ Sm ct := by
        obtain ⟨xs, e, hd⟩ := hR
        have e : xs = (fins r1 ++ [e1, e2]).map PyData.int := by cases e; rfl
        subst e
        obtain ⟨y, hy, rfl⟩ := List.mem_map.mp hd
        refine ⟨y, rfl, ?_⟩
        rcases List.mem_append.mp hy with m | m
        · exact s1 y m
        · simp only [List.mem_cons, List.not_mem_nil, or_false] at m
          rcases m with rfl | rfl
          · exact m1
          · exact m2'
      -- what is known
      have lrf := fins_len r
      refine' run_seq (run_set (d := eIs (fins r1 ++ fins r ++ [ct])) (ev_is (ev_op (ev_op (ev_var (d := eIs (fins r1)) rfl) (near (r := r) rfl rfl) (op_catl (by rw [List.length_map, List.length_map]; omega))) (ev_lst (ea_cons (ev_var (d := .int ct) rfl) ea_nil) (Nat.le_of_ble_eq_true rfl)) (op_catl (by rw [List.length_append, List.length_map, List.length_map]; show _ + 1 ≤ _; omega))) (by rw [eIs, List.map_append, List.map_append]; rfl)) ?_)
      obtain ⟨co, hco⟩ : ∃ co : Co, co = ⟨r1, r, ct, fins r1 ++ fins r ++ [ct]⟩ := ⟨_, rfl⟩
      have lk5 : (fins r1 ++ fins r ++ [ct]).length ≤ 5 := by rw [List.length_append, List.length_append]; show _ + 1 ≤ _; omega
      have sk5 : ∀ e ∈ fins r1 ++ fins r ++ [ct], Sm e := fun e he => by
        rcases List.mem_append.mp he with m | m
        · rcases List.mem_append.mp m with m | m
          · exact s1 e m
          · exact sr e m
        · rw [List.mem_singleton.mp m]; exact hct
      have cok : co.Ok := by
        subst hco
        exact ⟨i1, ir, fun e he => List.mem_append_left _ (List.mem_append_left _ he), fun e he => List.mem_append_left _ (List.mem_append_right _ he), List.mem_append_right _ List.mem_cons_self, sk5, lk5⟩
      have ll : ∀ {α : Type} (g : Co → α) (h : α → PyData), ((cs.map g).map h).length ≤ 1000 := fun g h => by rw [List.length_map, List.length_map]; omega
      refine' run_seq (run_app (A := False) (j := 6) rfl (evs_d (ev_var (d := eOI r1) rfl) ?_) (ll _ _))
      refine' run_seq (run_app (A := False) (j := 7) rfl (evs_d (ev_var (d := eOI r) rfl) ?_) (ll _ _))
      refine' run_seq (run_app (A := False) (j := 8) rfl (evs_d (ev_tup2 (ev_call (ea_cons (ev_var (d := eIs (fins r1 ++ fins r ++ [ct])) rfl) ea_nil) (r__law_tests (by omega))) (ev_call (ea_cons (ev_sortset (ns := fins r1 ++ fins r ++ [ct]) (ev_var rfl) (by omega) (asc_srt _) fun k => mem_srt _) (ea_cons (ev_var (d := .int sc) rfl) ea_nil)) (r__law_fractions (ks := srt (fins r1 ++ fins r ++ [ct])) (Nat.le_trans (len_srt _) (by omega)) sok))) ?_) (ll _ _))
      refine' run_app (A := False) (j := 9) rfl (evs_d (ev_var (d := .int ct) rfl) ?_) (ll _ _)
      refine ⟨cs ++ [co], fins r1 ++ fins r ++ [ct], by rw [List.length_append, hcs]; rfl, fun c' hc' => (List.mem_append.mp hc').elim (ok c') fun m => by rw [List.mem_singleton.mp m]; exact cok, lk5, sk5, ?_⟩
      subst hco
      simp only [List.map_append]
      exact ⟨_, _, _, _, _, _, _, _, _, _, rfl, rfl⟩
    · obtain ⟨cs, ks, hcs, ok, lks, sks, u2, u10, u11, u12, u13, u14, u15, u16, u17, u18, pu, rfl⟩ := hJ
      have hcs : cs.length = n := by rw [hcs, List.length_map, List.length_range, Int.toNat_natCast]
      have G := good sc cs sok (by omega) (by omega) ok
      have l100 : ∀ {α : Type} (g : Co → α), (cs.map g).length ≤ 100 := fun g => by rw [List.length_map]; omega
      refine run_freeze (j := 6) rfl (run_freeze (j := 7) rfl (run_freeze (j := 8) rfl (run_freeze (j := 9) rfl ?_)))
      refine' run_seq (run_par (A := False) (evsa_a (ea_cons (ev_call (ea_cons (ev_var rfl) (ea_cons (ev_var rfl) ea_nil)) (r__law_shown (rs := cs.map Co.a) (l100 _) sok)) (ea_cons (ev_call (ea_cons (ev_var rfl) (ea_cons (ev_var rfl) ea_nil)) (r__law_shown (rs := cs.map Co.b) (l100 _) sok)) ea_nil)) ⟨_, _, rfl, ?_⟩))
      have two : R__law_two_right [.list ((cs.map Co.a).map eOI), .list ((cs.map Co.b).map eOI), eB (boxA sc cs), eB (boxB sc cs), .list ((cs.map (Co.t sc)).map eT), .int sc] (.bool true) := ⟨cs, sc, G.two, rfl, rfl⟩
      refine' run_seq (run_ifS (A := True) (S := fun b => b = false) (evst_or (evst_t (et_is (y := false) (et_not (c := true) (et_B (ev_call (ea_cons (ev_var rfl) (ea_cons (ev_var rfl) (ea_cons (ev_var rfl) (ea_cons (ev_var rfl) (ea_cons (ev_var rfl) (ea_cons (ev_var rfl) ea_nil)))))) two))) rfl) ⟨fun z => (nomatch z), fun _ => evst_not (evst_test (evs_call (x := a) (c := c) rfl trivial (evsa_a (ds := [.list ((cs.map Co.a).map eOI), eB (boxA sc cs), .list ((cs.map (Co.t sc)).map eT), .int sc]) (ea_cons (ev_var rfl) (ea_cons (ev_var rfl) (ea_cons (ev_var rfl) (ea_cons (ev_var rfl) ea_nil)))) ⟨⟨_, _, _, G.ea, rfl⟩, fun d hR => ⟨true, hR, rfl⟩⟩)))⟩)) (fun z => (nomatch z)) (fun _ => run_next ?_))
      refine' run_seq (run_ifS (A := True) (S := fun b => b = false) (evst_not (evst_test (evs_call (x := a) (c := c) rfl trivial (evsa_a (ds := [.list ((cs.map Co.a).map eOI), eB (boxA sc cs), .list ((cs.map (Co.t sc)).map eT), .int sc]) (ea_cons (ev_var rfl) (ea_cons (ev_var rfl) (ea_cons (ev_var rfl) (ea_cons (ev_var rfl) ea_nil)))) ⟨⟨_, _, _, G.pa, rfl⟩, fun d hR => ⟨true, hR, rfl⟩⟩)))) (fun z => (nomatch z)) (fun _ => run_next ?_))
      refine' run_seq (run_par (A := True) (esa_cons (evs_call (x := a) (c := c) rfl trivial (evsa_a (ds := [.int (n : Int)]) (ea_cons (ev_var rfl) ea_nil) ⟨⟨(n : Int), by omega, by omega, rfl⟩, fun d1 h1 => ?_⟩))))
      obtain ⟨m, z1, y0, y1, e, rfl⟩ := h1
      have e : m = (n : Int) := by cases e; rfl
      subst e
      obtain ⟨i1, rfl⟩ := Int.eq_ofNat_of_zero_le y0
      refine' esa_cons (evs_call (x := a) (c := c) rfl trivial (evsa_a (ds := [.int (n : Int)]) (ea_cons (ev_var rfl) ea_nil) ⟨⟨(n : Int), by omega, by omega, rfl⟩, fun d1 h1 => ?_⟩))
      obtain ⟨m, z2, y2, y3, e, rfl⟩ := h1
      have e : m = (n : Int) := by cases e; rfl
      subst e
      obtain ⟨i2, rfl⟩ := Int.eq_ofNat_of_zero_le y2
      refine esa_nil ⟨_, _, rfl, ?_⟩
      have g1 := getD_get (xs := cs) (d := Co.no) (i := i1) (by omega)
      have g2 := getD_get (xs := cs) (d := Co.no) (i := i2) (by omega)
      obtain ⟨dd1, hc1⟩ := G.ca i1 _ g1
      obtain ⟨dd2, hc2⟩ := G.cb i2 _ g2
      refine' run_seq (run_if0 (et_or0 (et_is (y := false) (et_not (c := true) (et_B (ev_call (ea_cons (ev_var rfl) (ea_cons (ev_var rfl) (ea_cons (ev_var rfl) (ea_cons (ev_var rfl) (ea_cons (ev_var rfl) (ea_cons (ev_op (a := .list ((cs.map Co.cut).map PyData.int)) (b := .int (i1 : Nat)) (ev_var rfl) (ev_var rfl) (op_ixL (nthmm g1))) ea_nil)))))) (r__law_cut_right hc1)))) rfl) (et_is (y := false) (et_not (c := true) (et_B (ev_call (ea_cons (ev_var rfl) (ea_cons (ev_var rfl) (ea_cons (ev_var rfl) (ea_cons (ev_var rfl) (ea_cons (ev_var rfl) (ea_cons (ev_op (a := .list ((cs.map Co.cut).map PyData.int)) (b := .int (i2 : Nat)) (ev_var rfl) (ev_var rfl) (op_ixL (nthmm g2))) ea_nil)))))) (r__law_cut_right hc2)))) rfl)) rfl (run_next ?_))
      have abc : ∀ i : Fin 6, atI ("abcdef" : PySem.Str).cps.toList ((i.val : Nat) : Int) = some (97 + i.val) := by decide +kernel
      refine' run_seq (run_set (d := eNs n) (ev_cb (ea_cons (el_d (el_map (List.range n) (fun i => .int ((i : Nat) : Int)) eN (ei_range1 (n := (n : Int)) (ea_cons (ev_var rfl) ea_nil) (by omega) (by omega)) (by rw [List.length_range]; omega) rfl fun i hi => ⟨_, _, eg_name, rfl, ev_op (b := .int (i : Nat)) ev_str (ev_var rfl) (op_ixS (by decide +kernel) (abc ⟨i, by have := List.mem_range.mp hi; omega⟩))⟩)) ea_nil) ca_tuple') ?_)
      have due : ∀ {Γ : Ge}, Γ[8]? = some (.dat (.list ((cs.map (Co.t sc)).map eT))) → Γ[20]? = some .non → EvD (tLc (iList K (tVar 8)) (gName 20) tYes (tOp (rIxT K) (tVar 20) (tC (V.int 0))) [20]) Γ (eIss (cs.map Co.T)) := fun {Γ} g8 g20 => by
        have l20 : 20 < Γ.length := (List.getElem?_eq_some_iff.mp g20).1
        have q20 : ∀ d : PyData, (List.set (Γ.set 20 .non) 20 (.dat d))[20]? = some (.dat d) := fun d => List.getElem?_set_self (by rw [List.length_set]; exact l20)
        refine ev_is (el_d (el_map (cs.map (Co.t sc)) eT (fun t => eIs t.1) (ei_list (ev_var g8)) (by have := l100 (Co.t sc); omega) (by show (plainAt Γ 20 && true) = true; unfold plainAt; rw [g20]; rfl) fun t ht => ⟨_, _, eg_name, rfl, ev_op (ev_var (q20 (eT t))) ev_int (op_ixT rfl)⟩)) ?_
        rw [eIss, List.map_map, List.map_map]; rfl
      refine' run_if0 (et_is (y := false) (et_not (c := true) (et_B (ev_call (ea_cons (ev_free (n := n) ⟨by omega, by omega⟩ (ea_cons (ev_var rfl) (ea_cons (ev_tup ea_nil (Nat.zero_le _)) ea_nil))) (ea_cons (ev_var (d := .list ((cs.map (Co.t sc)).map eT)) rfl) (ea_cons (due rfl rfl) (ea_cons (ev_var rfl) ea_nil)))) (r__law_box_right (ob := some _) (due := cs.map Co.T) (l100 _) sok (by have := G.fr; rw [hcs] at this; exact this))))) rfl) rfl (run_next ⟨_, _, _, _, _, _, _, _, _, _, _, _, _, _, _, _, _, ?_, rfl⟩)
      rfl
  · obtain ⟨u2, u3, u4, u5, u6, u7, u8, u9, u10, u11, u12, u13, u14, u15, u16, u17, u18, pu, rfl⟩ := hI
    refine' run_seq (run_set (d := eB bx1) (ev_is (ev_tup2 (ev_tup2 (ev_tup2 ev_int ev_int) (ev_tup2 ev_int ev_int)) (ev_tup2 ev_non (ev_tup2 ev_int ev_int))) rfl) ?_)
    refine' run_seq (run_if0 (et_is (y := false) (et_test (ev_op (a := eOB (some [(some (1, 2), some (1, 2)), (some (3, 1), some (3, 1))])) (b := eOB (some [(some (1, 2), some (1, 2)), (some (3, 1), some (3, 1))])) (ev_is (ev_call (ea_cons (ev_var rfl) (ea_cons (ev_is (d := eB bx2) (ev_tup2 (ev_tup2 (ev_tup2 ev_int ev_int) ev_non) (ev_tup2 (ev_tup2 ev_int ev_int) ev_non)) rfl) ea_nil)) (r_common_box (b := bx1) (o := bx2) rfl bk1 bk2)) (congrArg eOB (by decide +kernel))) (ev_is (ev_tup2 (ev_tup2 (ev_tup2 ev_int ev_int) (ev_tup2 ev_int ev_int)) (ev_tup2 (ev_tup2 ev_int ev_int) (ev_tup2 ev_int ev_int))) rfl) op_neOB)) (by simp)) rfl (run_next ?_))
    refine' run_seq (run_if0 (et_or0 (et_is (y := false) (et_test (ev_op (a := eOB none) (ev_is (ev_call (ea_cons (ev_var rfl) (ea_cons (ev_is (d := eB bx3) (ev_tup2 (ev_tup2 (ev_tup2 ev_int ev_int) ev_non) (ev_tup2 ev_non ev_non)) rfl) ea_nil)) (r_common_box (b := bx1) (o := bx3) rfl bk1 bk3)) (congrArg eOB (by decide +kernel))) ev_non op_notN')) rfl)
      (et_test (ev_op (ev_call (ea_cons (ev_var rfl) (ea_cons (ev_is (d := .int ((0 : Nat) : Int)) ev_int rfl) (ea_cons (ev_is (d := eF (-1, 7)) (ev_tup2 (ev_un ev_int un_i) ev_int) rfl) ea_nil))) (r_halves (b := bx1) (i := 0) (v := (-1, 7)) bk1 (by decide) (by show (0 : Int) < 7 ∧ _; decide))) (ev_is (d := eHalf (halvesF bx1 0 (-1, 7))) (ev_tup2 ev_non (ev_var (d := eB bx1) rfl)) hv3) od_neHalf))) rfl (run_next ?_))
    refine' run_ret (d := .bool true) (ev_is (ev_op (ev_call (ea_cons (ev_var rfl) (ea_cons (ev_is (d := eB bx4) (ev_tup2 (ev_tup2 (ev_tup2 ev_int ev_int) (ev_tup2 ev_int ev_int)) (ev_tup2 (ev_tup2 ev_int ev_int) ev_non)) rfl) ea_nil)) (r_joined_box (b := bx1) (o := bx4) rfl bk1 bk4)) (ev_is (d := eB [(some (0, 1), some (2, 3)), (none, none)]) (ev_tup2 (ev_tup2 (ev_tup2 ev_int ev_int) (ev_tup2 ev_int ev_int)) (ev_tup2 ev_non ev_non)) rfl) op_eqB) (congrArg PyData.bool (by decide +kernel))) rfl
end
end Bx
namespace Bx
open PySem
/-! ### e over s in lowest terms -/
theorem fr_parts {s : Int} (hs : 0 < s) (e : Int) : ∃ g : Int, 0 < g ∧ (fr s e).1 * g = e ∧ (fr s e).2 * g = s ∧ 0 < (fr s e).2 ∧ (fr s e).2 ≤ s ∧ (fr s e).1.natAbs ≤ e.natAbs := by
  have g0 := gcd_pos (o := e) hs
  have d1 : (Nat.gcd e.natAbs s.natAbs : Int) ∣ e := Int.gcd_dvd_left ..
  have d2 : (Nat.gcd e.natAbs s.natAbs : Int) ∣ s := Int.gcd_dvd_right ..
  have m1 : (fr s e).1 * (Nat.gcd e.natAbs s.natAbs : Int) = e := Int.ediv_mul_cancel d1
  have m2 : (fr s e).2 * (Nat.gcd e.natAbs s.natAbs : Int) = s := Int.ediv_mul_cancel d2
  generalize (Nat.gcd e.natAbs s.natAbs : Int) = g at *
  have p2 : 0 < (fr s e).2 := by
    apply Int.lt_of_not_ge
    intro h
    have := Int.mul_le_mul_of_nonneg_right h (Int.le_of_lt g0)
    rw [m2, Int.zero_mul] at this
    omega
  refine ⟨g, g0, m1, m2, p2, ?_, ?_⟩
  · have := Int.mul_le_mul_of_nonneg_left (show (1 : Int) ≤ g by omega) (Int.le_of_lt p2)
    rw [m2, Int.mul_one] at this
    exact this
  · have h := congrArg Int.natAbs m1
    rw [Int.natAbs_mul] at h
    have := Nat.le_mul_of_pos_right (fr s e).1.natAbs (show 0 < g.natAbs by omega)
    omega
theorem fr_ok {s : Int} (hs : SOk s) (e : Int) : FOk (fr s e) := by
  obtain ⟨g, g0, _, _, h1, h2, _⟩ := fr_parts hs.1 e
  exact ⟨h1, Int.le_trans h2 hs.2⟩
theorem lt_mul {a b c : Int} (hc : 0 < c) : a * c < b * c ↔ a < b := Int.mul_lt_mul_right hc
theorem lessF_fr {s : Int} (hs : 0 < s) (a b : Int) : lessF (fr s a) (fr s b) = decide (a < b) := by
  obtain ⟨g, g0, a1, a2, _, _, _⟩ := fr_parts hs a
  obtain ⟨k, k0, b1, b2, _, _, _⟩ := fr_parts hs b
  unfold lessF
  refine decide_eq_decide.mpr ?_
  have e1 : (fr s a).1 * (fr s b).2 * (g * k) = a * s := by
    rw [show (fr s a).1 * (fr s b).2 * (g * k) = ((fr s a).1 * g) * ((fr s b).2 * k) by ac_rfl, a1, b2]
  have e2 : (fr s b).1 * (fr s a).2 * (g * k) = b * s := by
    rw [show (fr s b).1 * (fr s a).2 * (g * k) = ((fr s b).1 * k) * ((fr s a).2 * g) by ac_rfl, b1, a2]
  rw [← lt_mul (Int.mul_pos g0 k0), e1, e2, lt_mul hs]
theorem fr_inj {s : Int} (hs : 0 < s) {a b : Int} (h : fr s a = fr s b) : a = b := by
  have h1 := lessF_fr hs a b
  have h2 := lessF_fr hs b a
  rw [h] at h1
  rw [h] at h2
  have h3 : lessF (fr s b) (fr s b) = false := by unfold lessF; exact decide_eq_false (Int.lt_irrefl _)
  rw [h3] at h1 h2
  have h1 := of_decide_eq_false h1.symm
  have h2 := of_decide_eq_false h2.symm
  omega
theorem told_lo {s : Int} (hs : 0 < s) (e v : Int) : toldLo s v (some (fr s e)) = decide (e ≤ v) := by
  obtain ⟨g, g0, a1, a2, _, _, _⟩ := fr_parts hs e
  show (!decide (v * (fr s e).2 < (fr s e).1 * s)) = _
  have : (v * (fr s e).2 < (fr s e).1 * s) ↔ v < e := by
    rw [← lt_mul g0, Int.mul_assoc, a2, show (fr s e).1 * s * g = ((fr s e).1 * g) * s by ac_rfl, a1, lt_mul hs]
  rw [decide_eq_decide.mpr this]
  by_cases h : v < e
  · rw [decide_eq_true h, decide_eq_false (by omega)]; rfl
  · rw [decide_eq_false h, decide_eq_true (by omega)]; rfl
theorem told_hi {s : Int} (hs : 0 < s) (e v : Int) : toldHi s v (some (fr s e)) = decide (v ≤ e) := by
  obtain ⟨g, g0, a1, a2, _, _, _⟩ := fr_parts hs e
  show decide (v * (fr s e).2 ≤ (fr s e).1 * s) = _
  have : ((fr s e).1 * s < v * (fr s e).2) ↔ e < v := by
    rw [← lt_mul g0, show v * (fr s e).2 * g = v * ((fr s e).2 * g) by ac_rfl, a2, show (fr s e).1 * s * g = ((fr s e).1 * g) * s by ac_rfl, a1, lt_mul hs]
  refine decide_eq_decide.mpr ?_
  omega
theorem told_fr {s : Int} (hs : 0 < s) (r : OI) (v : Int) : toldF (frR s r) s v = hasI r v := by
  obtain ⟨lo, hi⟩ := r
  unfold toldF hasI
  congr 1
  · cases lo with
    | none => rfl
    | some l => exact told_lo hs l v
  · cases hi with
    | none => rfl
    | some l => exact told_hi hs l v
/-! ### ends of whole numbers -/
abbrev On := Option Int
def abI : On → On → Bool
  | some l, some h => decide (h < l)
  | _, _ => false
def sLo : On → On → On
  | none, b => b
  | some x, none => some x
  | some x, some y => if x < y then some y else some x
def sHi : On → On → On
  | none, b => b
  | some x, none => some x
  | some x, some y => if y < x then some y else some x
def wLo : On → On → On
  | some x, some y => sHi (some x) (some y)
  | _, _ => none
def wHi : On → On → On
  | some x, some y => sLo (some x) (some y)
  | _, _ => none
section
variable {s : Int} (hs : 0 < s)
include hs
theorem above_fr (a b : On) : aboveF (frO s a) (frO s b) = abI a b := by
  cases a with
  | none => rfl
  | some x => cases b with
    | none => rfl
    | some y => exact lessF_fr hs y x
theorem sLo_fr (a b : On) : sharpLowF (frO s a) (frO s b) = frO s (sLo a b) := by
  cases a with
  | none => rfl
  | some x => cases b with
    | none => rfl
    | some y =>
      show (if lessF (fr s x) (fr s y) = true then some (fr s y) else some (fr s x)) = frO s (if x < y then some y else some x)
      rw [lessF_fr hs]
      by_cases h : x < y
      · rw [if_pos h, decide_eq_true h]; rfl
      · rw [if_neg h, decide_eq_false h]; rfl
theorem sHi_fr (a b : On) : sharpHighF (frO s a) (frO s b) = frO s (sHi a b) := by
  cases a with
  | none => rfl
  | some x => cases b with
    | none => rfl
    | some y =>
      show (if lessF (fr s y) (fr s x) = true then some (fr s y) else some (fr s x)) = frO s (if y < x then some y else some x)
      rw [lessF_fr hs]
      by_cases h : y < x
      · rw [if_pos h, decide_eq_true h]; rfl
      · rw [if_neg h, decide_eq_false h]; rfl
theorem wLo_fr (a b : On) : wideLowF (frO s a) (frO s b) = frO s (wLo a b) := by
  cases a with
  | none => rfl
  | some x => cases b with
    | none => rfl
    | some y => exact sHi_fr hs (some x) (some y)
theorem wHi_fr (a b : On) : wideHighF (frO s a) (frO s b) = frO s (wHi a b) := by
  cases a with
  | none => rfl
  | some x => cases b with
    | none => rfl
    | some y => exact sLo_fr hs (some x) (some y)
theorem frO_eq (a b : On) : frO s a = frO s b ↔ a = b := by
  cases a with
  | none => cases b with
    | none => exact ⟨fun _ => rfl, fun _ => rfl⟩
    | some y => constructor <;> (intro h; cases h)
  | some x => cases b with
    | none => constructor <;> (intro h; cases h)
    | some y => exact ⟨fun h => congrArg some (fr_inj hs (Option.some.inj h)), fun h => by rw [h]⟩
end
def inter (a b : OI) : OI := (sLo a.1 b.1, sHi a.2 b.2)
def hullI (a b : OI) : OI := (wLo a.1 b.1, wHi a.2 b.2)
def winI (x y : OI) : Bool := decide (wLo x.1 y.1 = y.1) && decide (wHi x.2 y.2 = y.2)
/-- ends that are small -/
def SmO (o : On) : Prop := ∀ e, o = some e → Sm e
def SmR (r : OI) : Prop := SmO r.1 ∧ SmO r.2
theorem big_eq : big = 100000000000000000000 := rfl
section
variable {a b : On}
theorem lo_le (h : SmO a) : -big ≤ a.getD (-big) := by cases a with
  | none => exact Int.le_refl _
  | some x => have := h x rfl; unfold Sm at this; rw [big_eq]; show _ ≤ x; omega
theorem hi_ge (h : SmO a) : a.getD big ≤ big := by cases a with
  | none => exact Int.le_refl _
  | some x => have := h x rfl; unfold Sm at this; rw [big_eq]; show x ≤ _; omega
theorem sLo_lo (ha : SmO a) (hb : SmO b) : (sLo a b).getD (-big) = max (a.getD (-big)) (b.getD (-big)) := by
  have h1 := lo_le ha
  have h2 := lo_le hb
  cases a with
  | none => show b.getD (-big) = max (-big) _; omega
  | some x => cases b with
    | none => show x = max x (-big); have : -big ≤ x := h1; omega
    | some y => show (if x < y then some y else some x).getD (-big) = max x y; split <;> (show _ = _; simp only [Option.getD_some]; omega)
theorem sHi_hi (ha : SmO a) (hb : SmO b) : (sHi a b).getD big = min (a.getD big) (b.getD big) := by
  have h1 := hi_ge ha
  have h2 := hi_ge hb
  cases a with
  | none => show b.getD big = min big _; omega
  | some x => cases b with
    | none => show x = min x big; have : x ≤ big := h1; omega
    | some y => show (if y < x then some y else some x).getD big = min x y; split <;> (simp only [Option.getD_some]; omega)
theorem wLo_lo (ha : SmO a) (hb : SmO b) : (wLo a b).getD (-big) = min (a.getD (-big)) (b.getD (-big)) := by
  have h1 := lo_le ha
  have h2 := lo_le hb
  cases a with
  | none => show -big = min (-big) _; omega
  | some x => cases b with
    | none => show -big = min x (-big); have : -big ≤ x := h1; omega
    | some y => show (if y < x then some y else some x).getD (-big) = min x y; split <;> (simp only [Option.getD_some]; omega)
theorem wHi_hi (ha : SmO a) (hb : SmO b) : (wHi a b).getD big = max (a.getD big) (b.getD big) := by
  have h1 := hi_ge ha
  have h2 := hi_ge hb
  cases a with
  | none => show big = max big _; omega
  | some x => cases b with
    | none => show big = max x big; have : x ≤ big := h1; omega
    | some y => show (if x < y then some y else some x).getD big = max x y; split <;> (simp only [Option.getD_some]; omega)
theorem wLo_win (ha : SmO a) (hb : SmO b) : wLo a b = b ↔ b.getD (-big) ≤ a.getD (-big) := by
  cases b with
  | none =>
    have : wLo a none = none := by cases a <;> rfl
    rw [this]
    exact ⟨fun _ => lo_le ha, fun _ => rfl⟩
  | some y =>
    have hy := hb y rfl
    unfold Sm at hy
    cases a with
    | none => exact ⟨fun h => (nomatch h), fun h => by have h : y ≤ -big := h; rw [big_eq] at h; omega⟩
    | some x =>
      show (if y < x then some y else some x) = some y ↔ y ≤ x
      by_cases h : y < x
      · rw [if_pos h]; exact ⟨fun _ => by omega, fun _ => rfl⟩
      · rw [if_neg h]; exact ⟨fun e => by have := Option.some.inj e; omega, fun e => congrArg some (by omega)⟩
theorem wHi_win (ha : SmO a) (hb : SmO b) : wHi a b = b ↔ a.getD big ≤ b.getD big := by
  cases b with
  | none =>
    have : wHi a none = none := by cases a <;> rfl
    rw [this]
    exact ⟨fun _ => hi_ge ha, fun _ => rfl⟩
  | some y =>
    have hy := hb y rfl
    unfold Sm at hy
    cases a with
    | none => exact ⟨fun h => (nomatch h), fun h => by have h : big ≤ y := h; rw [big_eq] at h; omega⟩
    | some x =>
      show (if x < y then some y else some x) = some y ↔ x ≤ y
      by_cases h : x < y
      · rw [if_pos h]; exact ⟨fun _ => by omega, fun _ => rfl⟩
      · rw [if_neg h]; exact ⟨fun e => by have := Option.some.inj e; omega, fun e => congrArg some (by omega)⟩
end
theorem win_iff {x y : OI} (hx : SmR x) (hy : SmR y) : winI x y = true ↔ loT y ≤ loT x ∧ hiT x ≤ hiT y := by
  unfold winI loT hiT
  rw [Bool.and_eq_true, decide_eq_true_iff, decide_eq_true_iff, wLo_win hx.1 hy.1, wHi_win hx.2 hy.2]
theorem has_iff {r : OI} (h : SmR r) {v : Int} (h1 : -big ≤ v) (h2 : v ≤ big) : hasI r v = true ↔ loT r ≤ v ∧ v ≤ hiT r := by
  obtain ⟨lo, hi⟩ := r
  unfold hasI loT hiT
  rw [Bool.and_eq_true]
  refine and_congr ?_ ?_
  · cases lo with
    | none => exact ⟨fun _ => h1, fun _ => rfl⟩
    | some l => exact decide_eq_true_iff
  · cases hi with
    | none => exact ⟨fun _ => h2, fun _ => rfl⟩
    | some l => exact decide_eq_true_iff
end Bx
namespace Bx
open PySem
theorem mem_T {c : Co} {v : Int} : v ∈ c.T ↔ v = -big ∨ v = big ∨ ∃ e ∈ c.ks, v = e - 1 ∨ v = e ∨ v = e + 1 := by
  unfold Co.T
  rw [mem_srt]
  unfold testsL
  simp only [List.mem_append, List.mem_cons, List.not_mem_nil, or_false, List.mem_flatMap, or_assoc]
theorem T_bd {c : Co} (h : c.Ok) {v : Int} (hv : v ∈ c.T) : -big ≤ v ∧ v ≤ big := by
  rw [mem_T] at hv
  rcases hv with rfl | rfl | ⟨e, he, hv⟩
  · exact ⟨Int.le_refl _, by decide⟩
  · exact ⟨by decide, Int.le_refl _⟩
  · have := h.sm e he
    unfold Sm at this
    rw [big_eq]
    omega
/-- its ends are known -/
def In (r : OI) (c : Co) : Prop := ∀ e, (r.1 = some e ∨ r.2 = some e) → e ∈ c.ks
theorem fins_1 {r : OI} {e : Int} (h : r.1 = some e ∨ r.2 = some e) : e ∈ fins r := by
  obtain ⟨a, b⟩ := r
  unfold fins
  rw [List.mem_filterMap]
  rcases h with h | h
  · exact ⟨some e, by rw [show a = some e from h]; exact List.mem_cons_self, rfl⟩
  · exact ⟨some e, by rw [show b = some e from h]; exact List.mem_cons_of_mem _ List.mem_cons_self, rfl⟩
theorem in_a {c : Co} (h : c.Ok) : In c.a c := fun e he => h.ka e (fins_1 he)
theorem in_b {c : Co} (h : c.Ok) : In c.b c := fun e he => h.kb e (fins_1 he)
theorem in_none {c : Co} : In (none, none) c := fun e he => by rcases he with h | h <;> cases h
theorem sLo_or (a b : On) : sLo a b = a ∨ sLo a b = b := by
  cases a with
  | none => exact .inr rfl
  | some x => cases b with
    | none => exact .inl rfl
    | some y =>
      by_cases h : x < y
      · exact .inr (if_pos h)
      · exact .inl (if_neg h)
theorem sHi_or (a b : On) : sHi a b = a ∨ sHi a b = b := by
  cases a with
  | none => exact .inr rfl
  | some x => cases b with
    | none => exact .inl rfl
    | some y =>
      by_cases h : y < x
      · exact .inr (if_pos h)
      · exact .inl (if_neg h)
theorem wLo_or (a b : On) : wLo a b = none ∨ wLo a b = a ∨ wLo a b = b := by
  cases a with
  | none => exact .inl rfl
  | some x => cases b with
    | none => exact .inl rfl
    | some y => have h := sHi_or (some x) (some y); exact .inr h
theorem wHi_or (a b : On) : wHi a b = none ∨ wHi a b = a ∨ wHi a b = b := by
  cases a with
  | none => exact .inl rfl
  | some x => cases b with
    | none => exact .inl rfl
    | some y => have h := sLo_or (some x) (some y); exact .inr h
theorem in_inter {c : Co} {a b : OI} (ha : In a c) (hb : In b c) : In (inter a b) c := fun e he => by
  rcases he with h | h
  · rcases sLo_or a.1 b.1 with q | q
    · exact ha e (.inl (q.symm.trans h))
    · exact hb e (.inl (q.symm.trans h))
  · rcases sHi_or a.2 b.2 with q | q
    · exact ha e (.inr (q.symm.trans h))
    · exact hb e (.inr (q.symm.trans h))
theorem in_hull {c : Co} {a b : OI} (ha : In a c) (hb : In b c) : In (hullI a b) c := fun e he => by
  rcases he with h | h
  · rcases wLo_or a.1 b.1 with q | q | q
    · rw [show wLo a.1 b.1 = some e from h] at q; cases q
    · exact ha e (.inl (q.symm.trans h))
    · exact hb e (.inl (q.symm.trans h))
  · rcases wHi_or a.2 b.2 with q | q | q
    · rw [show wHi a.2 b.2 = some e from h] at q; cases q
    · exact ha e (.inr (q.symm.trans h))
    · exact hb e (.inr (q.symm.trans h))
theorem In.sm {c : Co} {r : OI} (h : In r c) (ok : c.Ok) : SmR r := ⟨fun e he => ok.sm e (h e (.inl he)), fun e he => ok.sm e (h e (.inr he))⟩
theorem ends_mem {c : Co} {e : Int} (h : e ∈ c.ks) : e ∈ c.T := mem_T.mpr (.inr (.inr ⟨e, h, .inr (.inl rfl)⟩))
theorem lo_mem {c : Co} {r : OI} (h : In r c) : loT r ∈ c.T := by
  obtain ⟨a, b⟩ := r
  cases a with
  | none => exact mem_T.mpr (.inl rfl)
  | some x => exact ends_mem (h x (.inl rfl))
theorem hi_mem {c : Co} {r : OI} (h : In r c) : hiT r ∈ c.T := by
  obtain ⟨a, b⟩ := r
  cases b with
  | none => exact mem_T.mpr (.inr (.inl rfl))
  | some x => exact ends_mem (h x (.inr rfl))
def sel (r : OI) (c : Co) : List Int := c.T.filter (hasI r)
section
variable {c : Co} (ok : c.Ok)
include ok
theorem has_T {r : OI} (h : In r c) {v : Int} (hv : v ∈ c.T) : hasI r v = true ↔ loT r ≤ v ∧ v ≤ hiT r := has_iff (h.sm ok) (T_bd ok hv).1 (T_bd ok hv).2
theorem sel_ne {r : OI} (h : In r c) : sel r c ≠ [] ↔ loT r ≤ hiT r := by
  constructor
  · intro hn
    obtain ⟨v, hv⟩ := List.exists_mem_of_ne_nil _ hn
    have hv := List.mem_filter.mp hv
    have := (has_T ok h hv.1).mp hv.2
    omega
  · intro hle hn
    have : loT r ∈ sel r c := List.mem_filter.mpr ⟨lo_mem h, (has_T ok h (lo_mem h)).mpr ⟨Int.le_refl _, hle⟩⟩
    rw [hn] at this
    cases this
theorem lo_hi {r : OI} (h : In r c) (i : IOk r) : loT r ≤ hiT r := by
  obtain ⟨a, b⟩ := r
  have hs := h.sm ok
  cases a with
  | none => exact Int.le_trans (show -big ≤ -big from Int.le_refl _) (by
      cases b with
      | none => decide
      | some y => have := hs.2 y rfl; unfold Sm at this; show -big ≤ y; rw [big_eq]; omega)
  | some x => cases b with
    | none => have := hs.1 x rfl; unfold Sm at this; show x ≤ big; rw [big_eq]; omega
    | some y => exact i.le x y rfl rfl
theorem ab_iff {r : OI} (h : In r c) : abI r.1 r.2 = true ↔ hiT r < loT r := by
  obtain ⟨a, b⟩ := r
  have hs := h.sm ok
  cases a with
  | none => exact ⟨fun z => (nomatch z), fun z => by have z : hiT (none, b) < -big := z; have := hi_mem h; have := (T_bd ok this).1; omega⟩
  | some x => cases b with
    | none => exact ⟨fun z => (nomatch z), fun z => by have z : big < loT (some x, none) := z; have := lo_mem h; have := (T_bd ok this).2; omega⟩
    | some y => exact decide_eq_true_iff
end
theorem filter_eq {T : List Int} {p q : Int → Bool} : T.filter p = T.filter q ↔ ∀ v ∈ T, p v = q v := by
  constructor
  · intro h v hv
    rw [Bool.eq_iff_iff]
    constructor
    · intro hp
      exact (List.mem_filter.mp (h ▸ List.mem_filter.mpr ⟨hv, hp⟩)).2
    · intro hq
      exact (List.mem_filter.mp (h ▸ List.mem_filter.mpr ⟨hv, hq⟩ : v ∈ T.filter p)).2
  · exact fun h => List.filter_congr h
section
variable {c : Co} (ok : c.Ok)
include ok
theorem lo_inter {a b : OI} (ha : In a c) (hb : In b c) : loT (inter a b) = max (loT a) (loT b) := sLo_lo (ha.sm ok).1 (hb.sm ok).1
theorem hi_inter {a b : OI} (ha : In a c) (hb : In b c) : hiT (inter a b) = min (hiT a) (hiT b) := sHi_hi (ha.sm ok).2 (hb.sm ok).2
theorem lo_hull {a b : OI} (ha : In a c) (hb : In b c) : loT (hullI a b) = min (loT a) (loT b) := wLo_lo (ha.sm ok).1 (hb.sm ok).1
theorem hi_hull {a b : OI} (ha : In a c) (hb : In b c) : hiT (hullI a b) = max (hiT a) (hiT b) := wHi_hi (ha.sm ok).2 (hb.sm ok).2
theorem both_eq : c.both = sel (inter c.a c.b) c := by
  unfold Co.both Co.mine Co.yours sel
  rw [List.filter_filter]
  refine List.filter_congr fun v hv => ?_
  have ha := in_a ok
  have hb := in_b ok
  rw [Bool.eq_iff_iff, Bool.and_eq_true, decide_eq_true_iff, List.mem_filter, has_T ok (in_inter ha hb) hv, has_T ok ha hv, has_T ok hb hv, lo_inter ok ha hb, hi_inter ok ha hb]
  constructor
  · rintro ⟨⟨_, h1, h2⟩, h3, h4⟩; omega
  · rintro ⟨h1, h2⟩; exact ⟨⟨hv, by omega, by omega⟩, by omega, by omega⟩
theorem hull_eq : c.hull = sel (hullI c.a c.b) c := by
  unfold Co.hull sel
  refine List.filter_congr fun v hv => ?_
  have ha := in_a ok
  have hb := in_b ok
  rw [Bool.eq_iff_iff, Bool.and_eq_true, decide_eq_true_iff, decide_eq_true_iff, has_T ok (in_hull ha hb) hv, lo_hull ok ha hb, hi_hull ok ha hb]
  rfl
/-- sets and ends -/
theorem sel_sub {x y : OI} (hx : In x c) (hy : In y c) (hn : loT x ≤ hiT x) : (∀ v ∈ c.T, hasI x v = true → hasI y v = true) ↔ winI x y = true := by
  rw [win_iff (hx.sm ok) (hy.sm ok)]
  constructor
  · intro h
    have h1 := (has_T ok hy (lo_mem hx)).mp (h _ (lo_mem hx) ((has_T ok hx (lo_mem hx)).mpr ⟨Int.le_refl _, hn⟩))
    have h2 := (has_T ok hy (hi_mem hx)).mp (h _ (hi_mem hx) ((has_T ok hx (hi_mem hx)).mpr ⟨hn, Int.le_refl _⟩))
    exact ⟨h1.1, h2.2⟩
  · rintro ⟨h1, h2⟩ v hv hx'
    have := (has_T ok hx hv).mp hx'
    exact (has_T ok hy hv).mpr ⟨by omega, by omega⟩
theorem inter_has {v : Int} (hv : v ∈ c.T) : hasI (inter c.a c.b) v = true ↔ hasI c.a v = true ∧ hasI c.b v = true := by
  have ha := in_a ok
  have hb := in_b ok
  rw [has_T ok (in_inter ha hb) hv, has_T ok ha hv, has_T ok hb hv, lo_inter ok ha hb, hi_inter ok ha hb]
  omega
theorem both_mine : c.both = c.mine ↔ winI c.a c.b = true := by
  rw [both_eq ok, ← sel_sub ok (in_a ok) (in_b ok) (lo_hi ok (in_a ok) ok.ia)]
  unfold sel Co.mine
  rw [filter_eq]
  constructor
  · intro h v hv h1
    have := h v hv
    rw [h1] at this
    exact ((inter_has ok hv).mp this).2
  · intro h v hv
    rw [Bool.eq_iff_iff, inter_has ok hv]
    exact ⟨fun z => z.1, fun z => ⟨z, h v hv z⟩⟩
theorem both_yours : c.both = c.yours ↔ winI c.b c.a = true := by
  rw [both_eq ok, ← sel_sub ok (in_b ok) (in_a ok) (lo_hi ok (in_b ok) ok.ib)]
  unfold sel Co.yours
  rw [filter_eq]
  constructor
  · intro h v hv h1
    have := h v hv
    rw [h1] at this
    exact ((inter_has ok hv).mp this).1
  · intro h v hv
    rw [Bool.eq_iff_iff, inter_has ok hv]
    exact ⟨fun z => z.2, fun z => ⟨h v hv z, z⟩⟩
theorem hull_ne : loT (hullI c.a c.b) ≤ hiT (hullI c.a c.b) := by
  have h1 := lo_hi ok (in_a ok) ok.ia
  rw [lo_hull ok (in_a ok) (in_b ok), hi_hull ok (in_a ok) (in_b ok)]
  omega
theorem win_hull_a : winI c.a (hullI c.a c.b) = true := by
  rw [win_iff ((in_a ok).sm ok) ((in_hull (in_a ok) (in_b ok)).sm ok), lo_hull ok (in_a ok) (in_b ok), hi_hull ok (in_a ok) (in_b ok)]
  omega
theorem win_hull_b : winI c.b (hullI c.a c.b) = true := by
  rw [win_iff ((in_b ok).sm ok) ((in_hull (in_a ok) (in_b ok)).sm ok), lo_hull ok (in_a ok) (in_b ok), hi_hull ok (in_a ok) (in_b ok)]
  omega
theorem hull_mine : c.hull = c.mine ↔ winI (hullI c.a c.b) c.a = true := by
  rw [hull_eq ok, ← sel_sub ok (in_hull (in_a ok) (in_b ok)) (in_a ok) (hull_ne ok)]
  unfold sel Co.mine
  rw [filter_eq]
  have sub := (sel_sub ok (in_a ok) (in_hull (in_a ok) (in_b ok)) (lo_hi ok (in_a ok) ok.ia)).mpr (win_hull_a ok)
  constructor
  · intro h v hv h1
    rw [← h v hv]; exact h1
  · intro h v hv
    rw [Bool.eq_iff_iff]
    exact ⟨h v hv, sub v hv⟩
theorem win_inter_a : winI (inter c.a c.b) c.a = true := by
  rw [win_iff ((in_inter (in_a ok) (in_b ok)).sm ok) ((in_a ok).sm ok), lo_inter ok (in_a ok) (in_b ok), hi_inter ok (in_a ok) (in_b ok)]
  omega
theorem win_inter_b : winI (inter c.a c.b) c.b = true := by
  rw [win_iff ((in_inter (in_a ok) (in_b ok)).sm ok) ((in_b ok).sm ok), lo_inter ok (in_a ok) (in_b ok), hi_inter ok (in_a ok) (in_b ok)]
  omega
theorem win_self : winI c.a c.a = true := by
  rw [win_iff ((in_a ok).sm ok) ((in_a ok).sm ok)]
  omega
theorem least_ok : c.least ∈ c.mine ++ c.yours ∧ ∀ y ∈ c.mine ++ c.yours, c.least ≤ y := by
  have ha := in_a ok
  have hb := in_b ok
  have la := lo_hi ok ha ok.ia
  have lb := lo_hi ok hb ok.ib
  have ma : loT c.a ∈ c.mine := List.mem_filter.mpr ⟨lo_mem ha, (has_T ok ha (lo_mem ha)).mpr ⟨Int.le_refl _, la⟩⟩
  have mb : loT c.b ∈ c.yours := List.mem_filter.mpr ⟨lo_mem hb, (has_T ok hb (lo_mem hb)).mpr ⟨Int.le_refl _, lb⟩⟩
  have e : c.least = min (loT c.a) (loT c.b) := rfl
  constructor
  · rcases Int.le_total (loT c.a) (loT c.b) with h | h
    · rw [show c.least = loT c.a by omega]; exact List.mem_append_left _ ma
    · rw [show c.least = loT c.b by omega]; exact List.mem_append_right _ mb
  · intro y hy
    rcases List.mem_append.mp hy with m | m
    · have := (has_T ok ha (List.mem_filter.mp m).1).mp (List.mem_filter.mp m).2; omega
    · have := (has_T ok hb (List.mem_filter.mp m).1).mp (List.mem_filter.mp m).2; omega
theorem most_ok : c.most ∈ c.mine ++ c.yours ∧ ∀ y ∈ c.mine ++ c.yours, y ≤ c.most := by
  have ha := in_a ok
  have hb := in_b ok
  have la := lo_hi ok ha ok.ia
  have lb := lo_hi ok hb ok.ib
  have ma : hiT c.a ∈ c.mine := List.mem_filter.mpr ⟨hi_mem ha, (has_T ok ha (hi_mem ha)).mpr ⟨la, Int.le_refl _⟩⟩
  have mb : hiT c.b ∈ c.yours := List.mem_filter.mpr ⟨hi_mem hb, (has_T ok hb (hi_mem hb)).mpr ⟨lb, Int.le_refl _⟩⟩
  have e : c.most = max (hiT c.a) (hiT c.b) := rfl
  constructor
  · rcases Int.le_total (hiT c.a) (hiT c.b) with h | h
    · rw [show c.most = hiT c.b by omega]; exact List.mem_append_right _ mb
    · rw [show c.most = hiT c.a by omega]; exact List.mem_append_left _ ma
  · intro y hy
    rcases List.mem_append.mp hy with m | m
    · have := (has_T ok ha (List.mem_filter.mp m).1).mp (List.mem_filter.mp m).2; omega
    · have := (has_T ok hb (List.mem_filter.mp m).1).mp (List.mem_filter.mp m).2; omega
end
end Bx
namespace Bx
open PySem
abbrev bx (s : Int) (cs : List Co) (f : Co → OI) : List Rf := (cs.map f).map (frR s)
theorem zip_bx (s : Int) (cs : List Co) (f g : Co → OI) : (bx s cs f).zip (bx s cs g) = cs.map fun c => (frR s (f c), frR s (g c)) := by
  unfold bx
  rw [List.map_map, List.map_map, List.zip_map']
  rfl
section
variable {s : Int} (hs : 0 < s) (cs : List Co) (f g : Co → OI)
include hs
theorem sharp_bx : sharpB (bx s cs f) (bx s cs g) = bx s cs fun c => inter (f c) (g c) := by
  unfold sharpB
  rw [zip_bx, List.map_map, bx, List.map_map]
  exact List.map_congr_left fun c _ => Prod.ext (sLo_fr hs _ _) (sHi_fr hs _ _)
theorem joined_bx : joinedF (bx s cs f) (bx s cs g) = bx s cs fun c => hullI (f c) (g c) := by
  unfold joinedF
  rw [zip_bx, List.map_map, bx, List.map_map]
  exact List.map_congr_left fun c _ => Prod.ext (wLo_fr hs _ _) (wHi_fr hs _ _)
theorem winR_fr (x y : OI) : winR (frR s x, frR s y) = winI x y := by
  show (decide (wideLowF (frO s x.1) (frO s y.1) = frO s y.1) && decide (wideHighF (frO s x.2) (frO s y.2) = frO s y.2)) = _
  rw [wLo_fr hs, wHi_fr hs, decide_eq_decide.mpr (frO_eq hs _ _), decide_eq_decide.mpr (frO_eq hs _ _)]
  rfl
theorem within_bx : withinF (bx s cs f) (bx s cs g) = cs.all fun c => winI (f c) (g c) := by
  unfold withinF
  rw [zip_bx, List.all_map]
  congr 1
  funext c
  exact winR_fr hs _ _
theorem common_bx : commonF (bx s cs f) (bx s cs g) = if (cs.any fun c => abI (inter (f c) (g c)).1 (inter (f c) (g c)).2) = true then none else some (bx s cs fun c => inter (f c) (g c)) := by
  unfold commonF
  rw [sharp_bx hs]
  have : ((bx s cs fun c => inter (f c) (g c)).any fun r => aboveF r.1 r.2) = cs.any fun c => abI (inter (f c) (g c)).1 (inter (f c) (g c)).2 := by
    unfold bx
    rw [List.any_map, List.any_map]
    congr 1
    funext c
    exact above_fr hs _ _
  rw [this]
end
theorem sLo_comm (a b : On) : sLo a b = sLo b a := by
  cases a with
  | none => cases b <;> rfl
  | some x => cases b with
    | none => rfl
    | some y =>
      show (if x < y then some y else some x) = (if y < x then some x else some y)
      by_cases h1 : x < y
      · rw [if_pos h1, if_neg (by omega)]
      · by_cases h2 : y < x
        · rw [if_neg h1, if_pos h2]
        · rw [if_neg h1, if_neg h2, show x = y by omega]
theorem sHi_comm (a b : On) : sHi a b = sHi b a := by
  cases a with
  | none => cases b <;> rfl
  | some x => cases b with
    | none => rfl
    | some y =>
      show (if y < x then some y else some x) = (if x < y then some x else some y)
      by_cases h1 : x < y
      · rw [if_pos h1, if_neg (by omega)]
      · by_cases h2 : y < x
        · rw [if_neg h1, if_pos h2]
        · rw [if_neg h1, if_neg h2, show x = y by omega]
theorem wLo_comm (a b : On) : wLo a b = wLo b a := by
  cases a with
  | none => cases b <;> rfl
  | some x => cases b with
    | none => rfl
    | some y => have h := sHi_comm (some x) (some y); exact h
theorem wHi_comm (a b : On) : wHi a b = wHi b a := by
  cases a with
  | none => cases b <;> rfl
  | some x => cases b with
    | none => rfl
    | some y => have h := sLo_comm (some x) (some y); exact h
theorem inter_comm (a b : OI) : inter a b = inter b a := Prod.ext (sLo_comm _ _) (sHi_comm _ _)
theorem hull_comm (a b : OI) : hullI a b = hullI b a := Prod.ext (wLo_comm _ _) (wHi_comm _ _)
theorem ook_fr {s : Int} (hs : SOk s) (o : On) : OOk (frO s o) := fun f e => by
  cases o with
  | none => cases e
  | some x => cases e; exact fr_ok hs x
theorem bok_fr {s : Int} (hs : SOk s) {own : List OI} (h : own.length ≤ 100) : BOk (own.map (frR s)) := ⟨by rw [List.length_map]; exact h, fun r hr => by
  obtain ⟨x, _, rfl⟩ := List.mem_map.mp hr
  exact ⟨ook_fr hs _, ook_fr hs _⟩⟩
/-! ### a box for what is due -/
structure Fits (own : List OI) (cs : List Co) : Prop where
  len : own.length = cs.length
  inn : ∀ (i : Nat) r c, own[i]? = some r → cs[i]? = some c → In r c
theorem due_get (own : List OI) (ts : List (List Int × List Fr)) (j : Nat) : (dueL own ts)[j]? = own[j]?.bind fun r => ts[j]?.map fun t => t.1.filter (hasI r) := by
  unfold dueL
  induction own generalizing ts j with
  | nil => simp
  | cons r own ih =>
    cases ts with
    | nil => cases own[j]? <;> simp
    | cons t ts =>
      cases j with
      | zero => rfl
      | succ j => simpa using ih ts j
theorem due_len {own : List OI} {cs : List Co} {s : Int} (h : own.length = cs.length) : (dueL own (cs.map (Co.t s))).length = cs.length := by
  unfold dueL
  rw [List.length_map, List.length_zip, List.length_map, h, Nat.min_self]
theorem due_map (s : Int) (cs : List Co) (f : Co → OI) : dueL (cs.map f) (cs.map (Co.t s)) = cs.map fun c => sel (f c) c := by
  unfold dueL
  rw [List.zip_map', List.map_map]
  rfl
theorem due_set {s : Int} {own : List OI} {cs : List Co} {i : Nat} {c : Co} (r : OI) (hc : cs[i]? = some c) (hl : own.length = cs.length) : (dueL own (cs.map (Co.t s))).set i (sel r c) = dueL (own.set i r) (cs.map (Co.t s)) := by
  have hi : i < cs.length := (List.getElem?_eq_some_iff.mp hc).1
  refine List.ext_getElem? fun j => ?_
  by_cases h : i = j
  · subst h
    rw [List.getElem?_set_self (by rw [due_len hl]; exact hi), due_get, List.getElem?_set_self (by omega), List.getElem?_map, hc]
    rfl
  · rw [List.getElem?_set_ne h, due_get, due_get, List.getElem?_set_ne h]
theorem T_len {c : Co} (ok : c.Ok) : c.T.length ≤ 90 := by
  have h1 : c.T.length ≤ (testsL c.ks).length := len_srt _
  rw [len_testsL] at h1
  have h2 := ok.kl
  omega
theorem box_ok {s : Int} {own : List OI} {cs : List Co} (hs : SOk s) (ft : Fits own cs) (ok : ∀ c ∈ cs, c.Ok) : BoxOk s (own.map (frR s)) (cs.map (Co.t s)) (dueL own (cs.map (Co.t s))) := by
  refine ⟨by rw [List.length_map, due_len ft.len, ft.len], by rw [List.length_map, due_len ft.len], fun i hi => ?_⟩
  rw [due_len ft.len] at hi
  obtain ⟨c, hc⟩ : ∃ c, cs[i]? = some c := ⟨_, List.getElem?_eq_getElem hi⟩
  obtain ⟨r, hr⟩ : ∃ r, own[i]? = some r := ⟨_, List.getElem?_eq_getElem (by rw [ft.len]; exact hi)⟩
  have okc := ok c (List.mem_of_getElem? hc)
  have hin := ft.inn i r c hr hc
  have em : ∀ o : On, (∀ e, o = some e → e ∈ c.ks) → EndIn (frO s o) (Co.t s c).2 := fun o ho f e => by
    cases o with
    | none => cases e
    | some x => cases e; exact List.mem_map.mpr ⟨x, (mem_srt _).mpr (ho x rfl), rfl⟩
  refine ⟨frR s r, Co.t s c, (Co.t s c).1.filter (hasI r), by rw [List.getElem?_map, hr]; rfl, by rw [List.getElem?_map, hc]; rfl, by rw [due_get, hr, List.getElem?_map, hc]; rfl, ⟨ook_fr hs _, ook_fr hs _⟩, em _ fun e h => hin e (.inl h), em _ fun e h => hin e (.inr h), Nat.le_trans (T_len okc) (by decide), ?_⟩
  exact List.filter_congr fun v _ => told_fr hs.1 r v
theorem box_right {s : Int} {own : List OI} {cs : List Co} (hs : SOk s) (ft : Fits own cs) (ok : ∀ c ∈ cs, c.Ok) (ne : ∀ (i : Nat) r c, own[i]? = some r → cs[i]? = some c → loT r ≤ hiT r) :
    BoxRight s (some (own.map (frR s))) (cs.map (Co.t s)) (dueL own (cs.map (Co.t s))) := by
  refine .inr ⟨fun d hd => ?_, _, rfl, box_ok hs ft ok⟩
  obtain ⟨i, hi⟩ := List.getElem?_of_mem hd
  rw [due_get] at hi
  cases hr : own[i]? with
  | none => rw [hr] at hi; cases hi
  | some r =>
    cases hc : cs[i]? with
    | none => rw [hr, List.getElem?_map, hc] at hi; cases hi
    | some c =>
      rw [hr, List.getElem?_map, hc] at hi
      have e : d = sel r c := (Option.some.inj hi).symm
      rw [e]
      exact (sel_ne (ok c (List.mem_of_getElem? hc)) (ft.inn i r c hr hc)).mpr (ne i r c hr hc)
theorem fits_map {cs : List Co} {f : Co → OI} (h : ∀ c ∈ cs, In (f c) c) : Fits (cs.map f) cs := ⟨List.length_map _, fun i r c hr hc => by
  rw [List.getElem?_map, hc] at hr
  cases hr
  exact h c (List.mem_of_getElem? hc)⟩
theorem all_dec {cs : List Co} {f g : Co → List Int} {p : Co → Bool} (h : ∀ c ∈ cs, (f c = g c ↔ p c = true)) : cs.all p = decide (cs.map f = cs.map g) := by
  rw [Bool.eq_iff_iff, decide_eq_true_iff, List.all_eq_true, List.map_inj_left]
  exact ⟨fun z c hc => (h c hc).mpr (z c hc), fun z c hc => (h c hc).mp (z c hc)⟩
theorem two_ok {s : Int} {cs : List Co} (hs : SOk s) (hl : cs.length ≤ 6) (ok : ∀ c ∈ cs, c.Ok) : Two s cs := by
  have hA : boxA s cs = bx s cs Co.a := rfl
  have hB : boxB s cs = bx s cs Co.b := rfl
  have hJ : joinedF (boxA s cs) (boxB s cs) = bx s cs fun c => hullI c.a c.b := by rw [hA, hB, joined_bx hs.1]
  have inA := fun c hc => in_a (ok c hc)
  have inB := fun c hc => in_b (ok c hc)
  have eb : cs.map Co.both = dueL (cs.map fun c => inter c.a c.b) (cs.map (Co.t s)) := by rw [due_map]; exact List.map_congr_left fun c hc => both_eq (ok c hc)
  have eh : cs.map Co.hull = dueL (cs.map fun c => hullI c.a c.b) (cs.map (Co.t s)) := by rw [due_map]; exact List.map_congr_left fun c hc => hull_eq (ok c hc)
  refine ⟨hs, by omega, fun c hc => Nat.le_trans (T_len (ok c hc)) (by decide), bok_fr hs (by rw [List.length_map]; omega), bok_fr hs (by rw [List.length_map]; omega), fun c hc => least_ok (ok c hc), fun c hc => most_ok (ok c hc), ?_, ?_, ?_, ?_, ?_, ?_, ?_, ?_, ?_, ?_⟩
  · rw [hA, hB, common_bx hs.1]
    by_cases h : (cs.any fun c => abI (inter c.a c.b).1 (inter c.a c.b).2) = true
    · rw [if_pos h]
      refine .inl ⟨?_, rfl⟩
      obtain ⟨c, hc, h⟩ := List.any_eq_true.mp h
      have h := (ab_iff (ok c hc) (in_inter (inA c hc) (inB c hc))).mp h
      refine List.mem_map.mpr ⟨c, hc, ?_⟩
      rw [both_eq (ok c hc)]
      apply Decidable.byContradiction
      intro hn
      have := (sel_ne (ok c hc) (in_inter (inA c hc) (inB c hc))).mp hn
      omega
    · rw [if_neg h, eb]
      refine box_right hs (fits_map fun c hc => in_inter (inA c hc) (inB c hc)) ok fun i r c hr hc => ?_
      rw [List.getElem?_map, hc] at hr
      cases hr
      have hm := List.mem_of_getElem? hc
      have h1 : ¬ abI (inter c.a c.b).1 (inter c.a c.b).2 = true := fun z => h (List.any_eq_true.mpr ⟨c, hm, z⟩)
      rw [ab_iff (ok c hm) (in_inter (inA c hm) (inB c hm))] at h1
      show loT (inter c.a c.b) ≤ hiT (inter c.a c.b)
      omega
  · rw [hA, hB, common_bx hs.1, common_bx hs.1]
    have : (fun c : Co => inter c.b c.a) = fun c => inter c.a c.b := funext fun c => inter_comm _ _
    have e2 : (fun c : Co => abI (inter c.b c.a).1 (inter c.b c.a).2) = fun c => abI (inter c.a c.b).1 (inter c.a c.b).2 := funext fun c => by rw [inter_comm]
    rw [this, e2]
  · rw [hJ, eh]
    refine box_right hs (fits_map fun c hc => in_hull (inA c hc) (inB c hc)) ok fun i r c hr hc => ?_
    rw [List.getElem?_map, hc] at hr
    cases hr
    exact hull_ne (ok c (List.mem_of_getElem? hc))
  · rw [hJ, hA, hB, joined_bx hs.1]
    have : (fun c : Co => hullI c.b c.a) = fun c => hullI c.a c.b := funext fun c => hull_comm _ _
    rw [this]
  · rw [hA, hB, within_bx hs.1]; exact all_dec fun c hc => both_mine (ok c hc)
  · rw [hA, hB, within_bx hs.1]; exact all_dec fun c hc => both_yours (ok c hc)
  · rw [hJ, hA, within_bx hs.1]; exact List.all_eq_true.mpr fun c hc => win_hull_a (ok c hc)
  · rw [hJ, hB, within_bx hs.1]; exact List.all_eq_true.mpr fun c hc => win_hull_b (ok c hc)
  · rw [hJ, hA, within_bx hs.1]; exact all_dec fun c hc => hull_mine (ok c hc)
  · intro cb hcb
    rw [hA, hB, common_bx hs.1] at hcb
    split at hcb
    · cases hcb
    · cases hcb
      rw [hA, hB, within_bx hs.1, within_bx hs.1, within_bx hs.1]
      exact ⟨List.all_eq_true.mpr fun c hc => win_inter_a (ok c hc), List.all_eq_true.mpr fun c hc => win_inter_b (ok c hc), List.all_eq_true.mpr fun c hc => win_self (ok c hc)⟩
theorem free_ok {s : Int} {cs : List Co} (hs : SOk s) (ok : ∀ c ∈ cs, c.Ok) : BoxRight s (some (List.replicate cs.length (none, none))) (cs.map (Co.t s)) (cs.map Co.T) := by
  have h := box_right (own := cs.map fun _ => (none, none)) hs (fits_map fun c _ => in_none) ok fun i r c hr hc => by
    rw [List.getElem?_map, hc] at hr
    cases hr
    show -big ≤ big
    decide
  rw [due_map] at h
  have e1 : (cs.map fun c => sel (none, none) c) = cs.map Co.T := List.map_congr_left fun c _ => by
    unfold sel
    exact List.filter_eq_self.mpr fun _ _ => rfl
  have e2 : (cs.map fun _ => ((none, none) : OI)).map (frR s) = List.replicate cs.length (none, none) := by
    rw [List.map_const', List.map_replicate]; rfl
  rw [e1, e2] at h
  exact h
end Bx
namespace Bx
open PySem
/-! ### cuts -/
theorem inter_has' {c : Co} (ok : c.Ok) {a b : OI} (ha : In a c) (hb : In b c) {v : Int} (hv : v ∈ c.T) : hasI (inter a b) v = true ↔ hasI a v = true ∧ hasI b v = true := by
  rw [has_T ok (in_inter ha hb) hv, has_T ok ha hv, has_T ok hb hv, lo_inter ok ha hb, hi_inter ok ha hb]
  omega
theorem sel_cut {c : Co} (ok : c.Ok) {a b : OI} (ha : In a c) (hb : In b c) {p : Int → Bool} (hp : ∀ x, hasI b x = p x) : (sel a c).filter p = sel (inter a b) c := by
  unfold sel
  rw [List.filter_filter]
  refine List.filter_congr fun v hv => ?_
  rw [Bool.eq_iff_iff, Bool.and_eq_true, inter_has' ok ha hb hv, hp]
  exact ⟨fun z => ⟨z.2, z.1⟩, fun z => ⟨z.2, z.1⟩⟩
theorem sLo_none (a : On) : sLo a none = a := by cases a <;> rfl
theorem sHi_none (a : On) : sHi a none = a := by cases a <;> rfl
theorem fits_set {own : List OI} {cs : List Co} {i : Nat} {r : OI} {c : Co} (ft : Fits own cs) (hc : cs[i]? = some c) (h : In r c) : Fits (own.set i r) cs := by
  refine ⟨by rw [List.length_set]; exact ft.len, fun j r' c' hr hc' => ?_⟩
  by_cases e : i = j
  · subst e
    rw [List.getElem?_set_self (by rw [ft.len]; exact (List.getElem?_eq_some_iff.mp hc).1)] at hr
    cases hr
    rw [hc] at hc'
    cases hc'
    exact h
  · rw [List.getElem?_set_ne e] at hr
    exact ft.inn j r' c' hr hc'
theorem ne_set {own : List OI} {cs : List Co} {i : Nat} {r : OI} (ne : ∀ (i : Nat) r c, own[i]? = some r → cs[i]? = some c → loT r ≤ hiT r) (h : loT r ≤ hiT r) : ∀ (j : Nat) r' c', (own.set i r)[j]? = some r' → cs[j]? = some c' → loT r' ≤ hiT r' := fun j r' c' hr hc => by
  by_cases e : i = j
  · subst e
    by_cases hl : i < own.length
    · rw [List.getElem?_set_self hl] at hr
      cases hr
      exact h
    · rw [List.getElem?_eq_none (by rw [List.length_set]; omega)] at hr; cases hr
  · rw [List.getElem?_set_ne e] at hr
    exact ne j r' c' hr hc
theorem cut_ok {s : Int} {cs : List Co} (hs : SOk s) (hl : cs.length ≤ 6) (ok : ∀ c ∈ cs, c.Ok) {f : Co → OI} (inn : ∀ c ∈ cs, In (f c) c) (io : ∀ c ∈ cs, IOk (f c)) {i : Nat} {c : Co} (hc : cs[i]? = some c) : Cut s (cs.map f) (cs.map (Co.t s)) i c.cut (sel (f c) c) := by
  have hm := List.mem_of_getElem? hc
  have okc := ok c hm
  have hi : i < cs.length := (List.getElem?_eq_some_iff.mp hc).1
  have hin := inn c hm
  have ft := fits_map inn
  have ne : ∀ (i : Nat) r c, (cs.map f)[i]? = some r → cs[i]? = some c → loT r ≤ hiT r := fun i r c hr hc => by
    rw [List.getElem?_map, hc] at hr
    cases hr
    exact lo_hi (ok c (List.mem_of_getElem? hc)) (inn c (List.mem_of_getElem? hc)) (io c (List.mem_of_getElem? hc))
  have hra : rAt ((cs.map f).map (frR s)) i = frR s (f c) := by
    unfold rAt
    rw [List.getD_eq_getElem?_getD, List.getElem?_map, List.getElem?_map, hc]
    rfl
  have lm : (cs.map f).length = cs.length := List.length_map _
  have hd : (dueL (cs.map f) (cs.map (Co.t s)))[i]? = some (sel (f c) c) := by rw [due_map, List.getElem?_map, hc]; rfl
  have inh : In (none, some c.cut) c := fun e he => by
    rcases he with h | h
    · cases h
    · cases h; exact okc.hc
  have inl : In (some c.cut, none) c := fun e he => by
    rcases he with h | h
    · cases h; exact okc.hc
    · cases h
  have inb : In (some c.cut, some c.cut) c := fun e he => by
    rcases he with h | h
    · cases h; exact okc.hc
    · cases h; exact okc.hc
  have cutT : c.cut ∈ c.T := ends_mem okc.hc
  have cbd := T_bd okc cutT
  have put : ∀ r : OI, ((cs.map f).map (frR s)).set i (frR s r) = ((cs.map f).set i r).map (frR s) := fun r => List.map_set.symm
  have nil : ∀ x : List Int, x = [] → [] ∈ (dueL (cs.map f) (cs.map (Co.t s))).set i x := fun x e => by
    subst e
    exact List.mem_of_getElem? (i := i) (List.getElem?_set_self (by rw [due_len lm]; exact hi))
  have e1 : (sel (f c) c).filter (fun x => decide (x ≤ c.cut)) = sel (inter (f c) (none, some c.cut)) c := sel_cut okc hin inh fun x => rfl
  have e2 : (sel (f c) c).filter (fun x => decide (x ≥ c.cut)) = sel (inter (f c) (some c.cut, none)) c := sel_cut okc hin inl fun x => by
    show (decide (c.cut ≤ x) && true) = _
    rw [Bool.and_true]
  have n0 := lo_hi okc hin (io c hm)
  refine ⟨hs, by rw [lm]; omega, by rw [List.length_map, List.length_map], fun t ht => ?_, bok_fr hs (by rw [lm]; omega), by rw [lm]; exact hi, fr_ok hs _, hd, ?_, ?_, ?_⟩
  · obtain ⟨c', hc', rfl⟩ := List.mem_map.mp ht
    exact Nat.le_trans (T_len (ok c' hc')) (by decide)
  · unfold belowF
    rw [hra, show (some (fr s c.cut)) = frO s (some c.cut) from rfl, above_fr hs.1, sHi_fr hs.1, e1]
    have lo1 := lo_inter okc hin inh
    have hi1 := hi_inter okc hin inh
    have t1 : loT (none, some c.cut) = -big := rfl
    have t2 : hiT (none, some c.cut) = c.cut := rfl
    have ab : abI (f c).1 (some c.cut) = true ↔ c.cut < loT (f c) := by
      obtain ⟨⟨lo, hi⟩, hfe⟩ : ∃ r, r = f c := ⟨_, rfl⟩
      rw [← hfe]
      cases lo with
      | none => exact ⟨fun z => (nomatch z), fun z => by have z : c.cut < -big := z; omega⟩
      | some x => exact decide_eq_true_iff
    by_cases h : c.cut < loT (f c)
    · rw [if_pos (ab.mpr h)]
      refine .inl ⟨nil _ ?_, rfl⟩
      apply Decidable.byContradiction
      intro hn
      have := (sel_ne okc (in_inter hin inh)).mp hn
      omega
    · rw [if_neg fun z => h (ab.mp z), due_set _ hc lm]
      have er : ((frR s (f c)).1, frO s (sHi (f c).2 (some c.cut))) = frR s (inter (f c) (none, some c.cut)) := by
        show _ = (frO s (sLo (f c).1 none), frO s (sHi (f c).2 (some c.cut)))
        rw [sLo_none]
      rw [er, put]
      refine box_right hs (fits_set ft hc (in_inter hin inh)) ok (ne_set ne ?_)
      have := lo_le (hin.sm okc).1
      have : -big ≤ loT (f c) := this
      omega
  · unfold overF
    rw [hra, show (some (fr s c.cut)) = frO s (some c.cut) from rfl, above_fr hs.1, sLo_fr hs.1, e2]
    have lo1 := lo_inter okc hin inl
    have hi1 := hi_inter okc hin inl
    have t1 : loT (some c.cut, none) = c.cut := rfl
    have t2 : hiT (some c.cut, none) = big := rfl
    have ab : abI (some c.cut) (f c).2 = true ↔ hiT (f c) < c.cut := by
      obtain ⟨⟨lo, hi⟩, hfe⟩ : ∃ r, r = f c := ⟨_, rfl⟩
      rw [← hfe]
      cases hi with
      | none => exact ⟨fun z => (nomatch z), fun z => by have z : big < c.cut := z; omega⟩
      | some x => exact decide_eq_true_iff
    by_cases h : hiT (f c) < c.cut
    · rw [if_pos (ab.mpr h)]
      refine .inl ⟨nil _ ?_, rfl⟩
      apply Decidable.byContradiction
      intro hn
      have := (sel_ne okc (in_inter hin inl)).mp hn
      omega
    · rw [if_neg fun z => h (ab.mp z), due_set _ hc lm]
      have er : (frO s (sLo (f c).1 (some c.cut)), (frR s (f c)).2) = frR s (inter (f c) (some c.cut, none)) := by
        show _ = (frO s (sLo (f c).1 (some c.cut)), frO s (sHi (f c).2 none))
        rw [sHi_none]
      rw [er, put]
      refine box_right hs (fits_set ft hc (in_inter hin inl)) ok (ne_set ne ?_)
      have := hi_ge (hin.sm okc).2
      have : hiT (f c) ≤ big := this
      omega
  · have e3 : [c.cut] = sel (some c.cut, some c.cut) c := by
      refine (asc_unique ((asc_srt _).filter _) (List.pairwise_singleton _ _) fun k => ?_).symm
      rw [List.mem_singleton, List.mem_filter]
      constructor
      · rintro ⟨_, h⟩
        have := Bool.and_eq_true_iff.mp h
        have h1 := of_decide_eq_true this.1
        have h2 := of_decide_eq_true this.2
        omega
      · rintro rfl
        refine ⟨cutT, ?_⟩
        show (decide (c.cut ≤ c.cut) && decide (c.cut ≤ c.cut)) = true
        rw [decide_eq_true (Int.le_refl _)]; rfl
    rw [e3, due_set _ hc lm, show (some (fr s c.cut), some (fr s c.cut)) = frR s (some c.cut, some c.cut) from rfl, put]
    exact box_right hs (fits_set ft hc inb) ok (ne_set ne (Int.le_refl _))
/-! ### what repr shows -/
open PySem.Spec in
theorem short_int {i : Int} (h1 : -1000000000 ≤ i) (h2 : i ≤ 1000000000) : (PyData.int i).leavesShort 13 = true ∧ (PyData.int i).showable = true ∧ (PyData.int i).weight ≤ 31 := by
  have hl : i.natAbs.log2 < 30 := by
    by_cases h0 : i.natAbs = 0
    · rw [h0]; decide
    · exact (Nat.log2_lt h0).mpr (by have : (2 : Nat) ^ 30 = 1073741824 := by decide
                                     rw [this]; omega)
  refine ⟨decide_eq_true (PyData.shown_int_le2 (by omega) (by omega)), decide_eq_true (by omega), ?_⟩
  show (if (i == 0) = true then 0 else i.natAbs.log2 + 1) ≤ 31
  split <;> omega
/-- shown with ease: with a weight -/
structure Sho (n w : Nat) (d : PyData) : Prop where
  ls : d.leavesShort 13 = true
  sh : d.showable = true
  dp : d.depth ≤ n
  hd : d.hasDict = false
  wt : d.weight ≤ w
theorem Sho.ok {n w : Nat} {d : PyData} (h : Sho n w d) (hn : n ≤ 60) (hw : w ≤ 100000) : ShowOk d := by
  refine ⟨h.sh, h.hd, Nat.le_trans h.dp hn, ?_⟩
  have := PyData.shown_le 13 (by decide) d h.ls
  have h2 := h.wt
  have h3 : 15 * d.weight ≤ 15 * 100000 := Nat.mul_le_mul_left _ (Nat.le_trans h2 hw)
  refine Nat.le_trans this (Nat.le_trans (Nat.add_le_add_right h3 13) ?_)
  decide
theorem sho_all {n w : Nat} : ∀ {ds : List PyData}, (∀ d ∈ ds, Sho n w d) → PyData.leavesShortAll 13 ds = true ∧ PyData.showableAll ds = true ∧ PyData.depthAll ds ≤ n ∧ PyData.hasDictAll ds = false ∧ PyData.weightAll ds ≤ ds.length * (w + 1)
  | [], _ => ⟨rfl, rfl, Nat.zero_le _, rfl, Nat.zero_le _⟩
  | d :: ds, h => by
    have h1 := h d List.mem_cons_self
    obtain ⟨a, b, c, e, f⟩ := sho_all fun x hx => h x (List.mem_cons_of_mem _ hx)
    refine ⟨?_, ?_, ?_, ?_, ?_⟩
    · show (d.leavesShort 13 && PyData.leavesShortAll 13 ds) = true; rw [h1.ls, a]; rfl
    · show (d.showable && PyData.showableAll ds) = true; rw [h1.sh, b]; rfl
    · show max d.depth (PyData.depthAll ds) ≤ n; have := h1.dp; omega
    · show (d.hasDict || PyData.hasDictAll ds) = false; rw [h1.hd, e]; rfl
    · show d.weight + 1 + PyData.weightAll ds ≤ (ds.length + 1) * (w + 1)
      have := h1.wt
      rw [Nat.succ_mul]
      omega
theorem sho_tup {n w m : Nat} {ds : List PyData} (h : ∀ d ∈ ds, Sho n w d) (hm : ds.length ≤ m) : Sho (n + 1) (m * (w + 1)) (.tuple ds) := by
  obtain ⟨a, b, c, e, f⟩ := sho_all h
  exact ⟨a, b, Nat.succ_le_succ c, e, Nat.le_trans f (Nat.mul_le_mul_right _ hm)⟩
theorem sho_int {i : Int} (h1 : -1000000000 ≤ i) (h2 : i ≤ 1000000000) : Sho 0 31 (.int i) := by
  obtain ⟨a, b, c⟩ := short_int h1 h2
  exact ⟨a, b, Nat.zero_le _, rfl, c⟩
def SmF (f : Fr) : Prop := (-1000000000 ≤ f.1 ∧ f.1 ≤ 1000000000) ∧ -1000000000 ≤ f.2 ∧ f.2 ≤ 1000000000
theorem sho_F {f : Fr} (h : SmF f) : Sho 1 64 (eF f) := sho_tup (m := 2) (w := 31) (fun d hd => by
  rcases List.mem_cons.mp hd with rfl | hd
  · exact sho_int h.1.1 h.1.2
  · rw [List.mem_singleton.mp hd]; exact sho_int h.2.1 h.2.2) (Nat.le_refl _)
theorem sho_O {o : Option Fr} (h : ∀ f, o = some f → SmF f) : Sho 1 64 (eO o) := by
  cases o with
  | none => exact ⟨rfl, rfl, Nat.zero_le _, rfl, Nat.zero_le _⟩
  | some f => exact sho_F (h f rfl)
theorem sho_R {r : Rf} (h1 : ∀ f, r.1 = some f → SmF f) (h2 : ∀ f, r.2 = some f → SmF f) : Sho 2 130 (eR r) := sho_tup (m := 2) (w := 64) (fun d hd => by
  rcases List.mem_cons.mp hd with rfl | hd
  · exact sho_O h1
  · rw [List.mem_singleton.mp hd]; exact sho_O h2) (Nat.le_refl _)
theorem show_B {b : List Rf} (hl : b.length ≤ 100) (h : ∀ r ∈ b, (∀ f, r.1 = some f → SmF f) ∧ ∀ f, r.2 = some f → SmF f) : ShowOk (eB b) :=
  (sho_tup (m := 100) (w := 130) (fun d hd => by
    obtain ⟨r, hr, rfl⟩ := List.mem_map.mp hd
    exact sho_R (h r hr).1 (h r hr).2) (by rw [List.length_map]; exact hl)).ok (by decide) (by decide)
theorem show_Pt {p : List Fr} (hl : p.length ≤ 300) (h : ∀ f ∈ p, SmF f) : ShowOk (ePt p) :=
  (sho_tup (m := 300) (w := 64) (fun d hd => by
    obtain ⟨r, hr, rfl⟩ := List.mem_map.mp hd
    exact sho_F (h r hr)) (by rw [List.length_map]; exact hl)).ok (by decide) (by decide)
theorem smF_fr {s : Int} (hs : SOk s) {e : Int} (h : -1000000000 ≤ (fr s e).1 ∧ (fr s e).1 ≤ 1000000000) : SmF (fr s e) := by
  have := fr_ok hs e
  exact ⟨h, by have := this.1; omega, this.2⟩
theorem smF_sm {s : Int} (hs : SOk s) {e : Int} (h : Sm e) : SmF (fr s e) := by
  obtain ⟨g, _, _, _, _, _, h6⟩ := fr_parts hs.1 e
  unfold Sm at h
  exact smF_fr hs (by omega)
end Bx
namespace Bx
open PySem
theorem ends_flat (p : Nat → Nat → Bool) : ∀ n : Nat, ((List.range n).flatMap fun i => ([0, 1].filter (p i)).map fun t => ((i : Int), ((t : Nat) : Int))) = ((List.range (2 * n)).filter fun j => p (j / 2) (j % 2)).map evE
  | 0 => rfl
  | n + 1 => by
    have e1 : (2 * n) / 2 = n := by omega
    have e2 : (2 * n) % 2 = 0 := by omega
    have e3 : (2 * n + 1) / 2 = n := by omega
    have e4 : (2 * n + 1) % 2 = 1 := by omega
    have v0 : evE (2 * n) = ((n : Int), (0 : Int)) := by unfold evE; rw [e1, e2]; rfl
    have v1 : evE (2 * n + 1) = ((n : Int), (1 : Int)) := by unfold evE; rw [e3, e4]; rfl
    rw [List.range_succ, List.flatMap_append, ends_flat p n, show 2 * (n + 1) = 2 * n + 1 + 1 by omega, List.range_succ, List.range_succ, List.filter_append, List.filter_append, List.map_append, List.map_append, List.append_assoc]
    congr 1
    rw [List.flatMap_singleton]
    cases h0 : p n 0 <;> cases h1 : p n 1 <;> simp [List.filter_cons, e1, e2, e3, e4, h0, h1, v0, v1]
theorem rAt_map (s : Int) (own : List OI) (i : Nat) : rAt (own.map (frR s)) i = frR s (own.getD i (none, none)) := by
  unfold rAt
  rw [List.getD_eq_getElem?_getD, List.getD_eq_getElem?_getD, List.getElem?_map]
  cases own[i]? <;> rfl
theorem ends_eq (s : Int) (own : List OI) : boxEndsF (own.map (frR s)) = thereL own := by
  have h := ends_flat (fun i t => (sideO (own.getD i (none, none)) t).isSome) own.length
  unfold boxEndsF thereL
  rw [List.length_map, ← h]
  congr 1
  funext i
  congr 1
  refine congrArg (fun f => List.filter f [0, 1]) (funext fun t => ?_)
  rw [rAt_map]
  unfold sideR sideO
  split <;> simp [frR]
theorem there_mem {own : List OI} {i t : Nat} (hi : i < own.length) (ht : t < 2) : ((i : Int), (t : Int)) ∈ thereL own ↔ (sideO (own.getD i (none, none)) t).isSome = true := by
  unfold thereL
  rw [List.mem_map]
  constructor
  · rintro ⟨j, hj, e⟩
    have hj := (List.mem_filter.mp hj).2
    unfold evE at e
    have e1 := congrArg Prod.fst e
    have e2 := congrArg Prod.snd e
    have e1 : ((j / 2 : Nat) : Int) = (i : Int) := e1
    have e2 : ((j % 2 : Nat) : Int) = (t : Int) := e2
    have e1 : j / 2 = i := by omega
    have e2 : j % 2 = t := by omega
    rw [e1, e2] at hj
    exact hj
  · intro h
    have e1 : (2 * i + t) / 2 = i := by omega
    have e2 : (2 * i + t) % 2 = t := by omega
    refine ⟨2 * i + t, List.mem_filter.mpr ⟨List.mem_range.mpr (by omega), by rw [e1, e2]; exact h⟩, ?_⟩
    unfold evE
    rw [e1, e2]
theorem only_there (s : Int) (own : List OI) : onlyF (own.map (frR s)) (thereL own) = own.map (frR s) := by
  have h := range_map (frR s) (none, none) own
  unfold onlyF
  rw [List.length_map, ← h]
  refine List.map_congr_left fun i hi => ?_
  have hi := List.mem_range.mp hi
  rw [h, rAt_map]
  have m0 := there_mem (t := 0) hi (by decide)
  have m1 := there_mem (t := 1) hi (by decide)
  have m0 : ((i : Int), (0 : Int)) ∈ thereL own ↔ (own.getD i (none, none)).1.isSome = true := m0
  have m1 : ((i : Int), (1 : Int)) ∈ thereL own ↔ (own.getD i (none, none)).2.isSome = true := m1
  refine Prod.ext ?_ ?_
  · show (if _ then frO s (own.getD i (none, none)).1 else none) = frO s (own.getD i (none, none)).1
    cases q : (own.getD i (none, none)).1 with
    | none => split <;> rfl
    | some x => rw [if_pos (m0.mpr (by rw [q]; rfl))]
  · show (if _ then frO s (own.getD i (none, none)).2 else none) = frO s (own.getD i (none, none)).2
    cases q : (own.getD i (none, none)).2 with
    | none => split <;> rfl
    | some x => rw [if_pos (m1.mpr (by rw [q]; rfl))]
theorem ends_ok {s : Int} {own : List OI} (hs : SOk s) (h1 : 1 ≤ own.length) (h6 : own.length ≤ 6) (sm : ∀ r ∈ own, SmR r) : Ends s own := by
  have bx : ∀ r ∈ own.map (frR s), (∀ f, r.1 = some f → SmF f) ∧ ∀ f, r.2 = some f → SmF f := fun r hr => by
    obtain ⟨x, hx, rfl⟩ := List.mem_map.mp hr
    have := sm x hx
    have key : ∀ o : On, SmO o → ∀ f, frO s o = some f → SmF f := fun o ho f e => by
      cases o with
      | none => cases e
      | some y => cases e; exact smF_sm hs (ho y rfl)
    exact ⟨key _ this.1, key _ this.2⟩
  have lm : (own.map (frR s)).length = own.length := List.length_map _
  refine ⟨h1, by omega, bok_fr hs (by omega), ends_eq s own, only_there s own, ?_, show_B (by omega) bx, fun ends => show_B ?_ fun r hr => ?_, show_Pt ?_ fun f hf => ?_⟩
  · unfold onlyF
    rw [lm]
    have : (fun i : Nat => (((if ((i : Int), (0 : Int)) ∈ ([] : List Fr) then (rAt (own.map (frR s)) i).1 else none), (if ((i : Int), (1 : Int)) ∈ ([] : List Fr) then (rAt (own.map (frR s)) i).2 else none)) : Rf)) = fun _ => (none, none) := funext fun i => by simp
    rw [this, List.map_const', List.length_range]
  · unfold onlyF; rw [List.length_map, List.length_range]; omega
  · unfold onlyF at hr
    obtain ⟨i, hi, rfl⟩ := List.mem_map.mp hr
    have hi := List.mem_range.mp hi
    have := bx _ (rAt_mem hi)
    refine ⟨fun f e => ?_, fun f e => ?_⟩
    · have e : (if ((i : Int), (0 : Int)) ∈ ends then (rAt (own.map (frR s)) i).1 else none) = some f := e
      split at e
      · exact this.1 f e
      · cases e
    · have e : (if ((i : Int), (1 : Int)) ∈ ends then (rAt (own.map (frR s)) i).2 else none) = some f := e
      split at e
      · exact this.2 f e
      · cases e
  · unfold thereL
    rw [List.length_map]
    refine Nat.le_trans (List.length_filter_le _ _) ?_
    rw [List.length_range]; omega
  · unfold thereL at hf
    obtain ⟨j, hj, rfl⟩ := List.mem_map.mp hf
    have hj := List.mem_range.mp (List.mem_filter.mp hj).1
    unfold evE SmF
    refine ⟨⟨?_, ?_⟩, ?_, ?_⟩ <;> (show _ ≤ _; simp only []; omega)
/-! ### points -/
theorem between_fr {s : Int} (hs : 0 < s) (v : Int) (r : OI) : betweenF (fr s v) (frR s r) = hasI r v := by
  unfold betweenF
  rw [show (some (fr s v)) = frO s (some v) from rfl, show (frR s r).1 = frO s r.1 from rfl, show (frR s r).2 = frO s r.2 from rfl, above_fr hs, above_fr hs]
  obtain ⟨lo, hi⟩ := r
  unfold hasI
  congr 1
  · cases lo with
    | none => rfl
    | some l =>
      show (!decide (v < l)) = decide (l ≤ v)
      by_cases h : v < l
      · rw [decide_eq_true h, decide_eq_false (by omega)]; rfl
      · rw [decide_eq_false h, decide_eq_true (by omega)]; rfl
  · cases hi with
    | none => rfl
    | some l =>
      show (!decide (l < v)) = decide (v ≤ l)
      by_cases h : l < v
      · rw [decide_eq_true h, decide_eq_false (by omega)]; rfl
      · rw [decide_eq_false h, decide_eq_true (by omega)]; rfl
theorem win_point (v : Int) (r : OI) : winI (some v, some v) r = hasI r v := by
  obtain ⟨lo, hi⟩ := r
  unfold winI hasI
  congr 1
  · cases lo with
    | none => rfl
    | some l =>
      refine decide_eq_decide.mpr ?_
      show (if l < v then some l else some v) = some l ↔ l ≤ v
      by_cases h : l < v
      · rw [if_pos h]; exact ⟨fun _ => by omega, fun _ => rfl⟩
      · rw [if_neg h]; exact ⟨fun e => by have := Option.some.inj e; omega, fun e => congrArg some (by omega)⟩
  · cases hi with
    | none => rfl
    | some l =>
      refine decide_eq_decide.mpr ?_
      show (if v < l then some l else some v) = some l ↔ v ≤ l
      by_cases h : v < l
      · rw [if_pos h]; exact ⟨fun _ => by omega, fun _ => rfl⟩
      · rw [if_neg h]; exact ⟨fun e => by have := Option.some.inj e; omega, fun e => congrArg some (by omega)⟩
theorem due_all {own : List OI} {p : List Int} (h : p.length = own.length) : ((p.zip own).all fun q => hasI q.2 q.1) = dueB own p := by
  unfold dueB
  rw [Bool.eq_iff_iff, List.all_eq_true, List.all_eq_true]
  constructor
  · intro hq i hi
    have hi := List.mem_range.mp hi
    have : (p.zip own)[i]? = some (p.getD i 0, own.getD i (none, none)) := List.getElem?_zip_eq_some.mpr ⟨getD_get (by omega), getD_get hi⟩
    exact hq _ (List.mem_of_getElem? this)
  · intro hi q hq
    obtain ⟨i, e⟩ := List.getElem?_of_mem hq
    have e := List.getElem?_zip_eq_some.mp e
    have := hi i (List.mem_range.mpr (List.getElem?_eq_some_iff.mp e.2).1)
    rw [List.getD_eq_getElem?_getD, List.getD_eq_getElem?_getD, e.1, e.2] at this
    exact this
theorem pts_ok {s : Int} {cs : List Co} (hs : SOk s) (h1 : 1 ≤ cs.length) (h6 : cs.length ≤ 6) (ok : ∀ c ∈ cs, c.Ok) : Pts s (cs.map Co.a) (cs.map (Co.t s)) := by
  have lm : (cs.map Co.a).length = cs.length := List.length_map _
  refine ⟨hs, by omega, by omega, by rw [List.length_map, lm], fun t ht => ?_, bok_fr hs (by omega), fr_ok hs, ?_, fun p hp => ?_, fun p => ?_, fun p hp => ?_, fun p hp hf => ?_⟩
  · obtain ⟨c, hc, rfl⟩ := List.mem_map.mp ht
    exact T_len (ok c hc)
  · obtain ⟨g, _, _, _, _, _, h6⟩ := fr_parts hs.1 0
    unfold Fitd
    have : (fr s 0).1.natAbs ≤ 0 := h6
    omega
  · rw [← due_all hp]
    unfold inBoxF
    rw [List.zip_map, List.all_map]
    congr 1
    funext q
    exact between_fr hs.1 _ _
  · unfold inBoxF ptB
    rw [show (p.map (fr s)).zip ((p.map (fr s)).map fun v => ((some v, some v) : Rf)) = (p.map (fr s)).map fun v => (v, ((some v, some v) : Rf)) from by
      have := List.zip_map' (f := id) (g := fun v : Fr => ((some v, some v) : Rf)) (l := p.map (fr s))
      rw [List.map_id] at this
      exact this, List.all_map]
    refine List.all_eq_true.mpr fun v _ => ?_
    show (!lessF v v && !lessF v v) = true
    have : lessF v v = false := decide_eq_false (Int.lt_irrefl _)
    rw [this]; rfl
  · rw [← due_all hp]
    unfold withinF ptB
    rw [List.map_map, List.zip_map, List.all_map]
    congr 1
    funext q
    exact (winR_fr hs.1 (some q.1, some q.1) q.2).trans (win_point _ _)
  · refine show_B (by unfold ptB; rw [List.length_map, List.length_map]; omega) fun r hr => ?_
    unfold ptB at hr
    obtain ⟨x, hx, rfl⟩ := List.mem_map.mp hr
    obtain ⟨v, hv, rfl⟩ := List.mem_map.mp hx
    have := smF_fr hs (hf v hv)
    exact ⟨fun f e => by cases e; exact this, fun f e => by cases e; exact this⟩
theorem good_all : GoodAll := fun s cs hs h1 h6 ok => by
  have inA : ∀ c ∈ cs, In c.a c := fun c hc => in_a (ok c hc)
  have inB : ∀ c ∈ cs, In c.b c := fun c hc => in_b (ok c hc)
  refine ⟨two_ok hs h6 ok, ends_ok hs (by rw [List.length_map]; exact h1) (by rw [List.length_map]; exact h6) fun r hr => ?_, pts_ok hs h1 h6 ok, fun i c hc => ⟨_, cut_ok hs h6 ok inA (fun c hc => (ok c hc).ia) hc⟩, fun i c hc => ⟨_, cut_ok hs h6 ok inB (fun c hc => (ok c hc).ib) hc⟩, free_ok hs ok⟩
  obtain ⟨c, hc, rfl⟩ := List.mem_map.mp hr
  exact (inA c hc).sm (ok c hc)
end Bx
namespace Bx
open PySem PySem.Spec L2 PyProof.Rows
section
theorem all_mk {l : PySem.W.OpenLaw} {w : World} {K : PySem.W.Frag} {h : Heap} {mg : PySem.Str → Option Value} {fa C : Addr} {f_less f_is_above f_is_between f_sharper_low f_sharper_high f_wider_low f_wider_high f_point_box f_in_box f_within f_common_box f_joined_box f_box_ends f_only_ends f_with_range f_placed f_halves f_is_name f_is_name_lot f_check_system f_free_box f__law_heap f__law_draw f__law_pick f__law_lowest f__law_end f__law_range f__law_has f__law_all_in f__law_shown f__law_fractions f__law_tests f__law_is_end f__law_told_has f__law_box_right f__law_two_right f__law_fit f__law_cut_right f__law_ends_right f__law_points_right f_law f_Init : Addr} (good : GoodAll) (X : K.In h) (G : h.Ns mainGlobals mg) (hfa : mg "law" = some (.ref fa))
    (a_less : PySem.W.nsIn K mainGlobals "less" = some (some (.ref f_less)))
    {oc_less kV_less dc_less pm_less cd_less ct_less : Value} {od_less an_less : Option Addr} {sl_less : Array (Option Value)}
    (l_less : K.lookup f_less = some ⟨oc_less, od_less, .func (PySem.W.fnOf "less" "less" (defArgs s_less) (defBody s_less) (defScope s_less) .none kV_less dc_less pm_less an_less cd_less ct_less), sl_less⟩)
    (c_less : PySem.W.codeIn K cd_less "less" = true)
    (k_less : PySem.W.keepIn K (.ref f_less) = true)
    (a_is_above : PySem.W.nsIn K mainGlobals "is_above" = some (some (.ref f_is_above)))
    {oc_is_above kV_is_above dc_is_above pm_is_above cd_is_above ct_is_above : Value} {od_is_above an_is_above : Option Addr} {sl_is_above : Array (Option Value)}
    (l_is_above : K.lookup f_is_above = some ⟨oc_is_above, od_is_above, .func (PySem.W.fnOf "is_above" "is_above" (defArgs s_is_above) (defBody s_is_above) (defScope s_is_above) .none kV_is_above dc_is_above pm_is_above an_is_above cd_is_above ct_is_above), sl_is_above⟩)
    (c_is_above : PySem.W.codeIn K cd_is_above "is_above" = true)
    (k_is_above : PySem.W.keepIn K (.ref f_is_above) = true)
    (a_is_between : PySem.W.nsIn K mainGlobals "is_between" = some (some (.ref f_is_between)))
    {oc_is_between kV_is_between dc_is_between pm_is_between cd_is_between ct_is_between : Value} {od_is_between an_is_between : Option Addr} {sl_is_between : Array (Option Value)}
    (l_is_between : K.lookup f_is_between = some ⟨oc_is_between, od_is_between, .func (PySem.W.fnOf "is_between" "is_between" (defArgs s_is_between) (defBody s_is_between) (defScope s_is_between) .none kV_is_between dc_is_between pm_is_between an_is_between cd_is_between ct_is_between), sl_is_between⟩)
    (c_is_between : PySem.W.codeIn K cd_is_between "is_between" = true)
    (k_is_between : PySem.W.keepIn K (.ref f_is_between) = true)
    (a_sharper_low : PySem.W.nsIn K mainGlobals "sharper_low" = some (some (.ref f_sharper_low)))
    {oc_sharper_low kV_sharper_low dc_sharper_low pm_sharper_low cd_sharper_low ct_sharper_low : Value} {od_sharper_low an_sharper_low : Option Addr} {sl_sharper_low : Array (Option Value)}
    (l_sharper_low : K.lookup f_sharper_low = some ⟨oc_sharper_low, od_sharper_low, .func (PySem.W.fnOf "sharper_low" "sharper_low" (defArgs s_sharper_low) (defBody s_sharper_low) (defScope s_sharper_low) .none kV_sharper_low dc_sharper_low pm_sharper_low an_sharper_low cd_sharper_low ct_sharper_low), sl_sharper_low⟩)
    (c_sharper_low : PySem.W.codeIn K cd_sharper_low "sharper_low" = true)
    (k_sharper_low : PySem.W.keepIn K (.ref f_sharper_low) = true)
    (a_sharper_high : PySem.W.nsIn K mainGlobals "sharper_high" = some (some (.ref f_sharper_high)))
    {oc_sharper_high kV_sharper_high dc_sharper_high pm_sharper_high cd_sharper_high ct_sharper_high : Value} {od_sharper_high an_sharper_high : Option Addr} {sl_sharper_high : Array (Option Value)}
    (l_sharper_high : K.lookup f_sharper_high = some ⟨oc_sharper_high, od_sharper_high, .func (PySem.W.fnOf "sharper_high" "sharper_high" (defArgs s_sharper_high) (defBody s_sharper_high) (defScope s_sharper_high) .none kV_sharper_high dc_sharper_high pm_sharper_high an_sharper_high cd_sharper_high ct_sharper_high), sl_sharper_high⟩)
    (c_sharper_high : PySem.W.codeIn K cd_sharper_high "sharper_high" = true)
    (k_sharper_high : PySem.W.keepIn K (.ref f_sharper_high) = true)
    (a_wider_low : PySem.W.nsIn K mainGlobals "wider_low" = some (some (.ref f_wider_low)))
    {oc_wider_low kV_wider_low dc_wider_low pm_wider_low cd_wider_low ct_wider_low : Value} {od_wider_low an_wider_low : Option Addr} {sl_wider_low : Array (Option Value)}
    (l_wider_low : K.lookup f_wider_low = some ⟨oc_wider_low, od_wider_low, .func (PySem.W.fnOf "wider_low" "wider_low" (defArgs s_wider_low) (defBody s_wider_low) (defScope s_wider_low) .none kV_wider_low dc_wider_low pm_wider_low an_wider_low cd_wider_low ct_wider_low), sl_wider_low⟩)
    (c_wider_low : PySem.W.codeIn K cd_wider_low "wider_low" = true)
    (k_wider_low : PySem.W.keepIn K (.ref f_wider_low) = true)
    (a_wider_high : PySem.W.nsIn K mainGlobals "wider_high" = some (some (.ref f_wider_high)))
    {oc_wider_high kV_wider_high dc_wider_high pm_wider_high cd_wider_high ct_wider_high : Value} {od_wider_high an_wider_high : Option Addr} {sl_wider_high : Array (Option Value)}
    (l_wider_high : K.lookup f_wider_high = some ⟨oc_wider_high, od_wider_high, .func (PySem.W.fnOf "wider_high" "wider_high" (defArgs s_wider_high) (defBody s_wider_high) (defScope s_wider_high) .none kV_wider_high dc_wider_high pm_wider_high an_wider_high cd_wider_high ct_wider_high), sl_wider_high⟩)
    (c_wider_high : PySem.W.codeIn K cd_wider_high "wider_high" = true)
    (k_wider_high : PySem.W.keepIn K (.ref f_wider_high) = true)
    (a_point_box : PySem.W.nsIn K mainGlobals "point_box" = some (some (.ref f_point_box)))
    {oc_point_box kV_point_box dc_point_box pm_point_box cd_point_box ct_point_box : Value} {od_point_box an_point_box : Option Addr} {sl_point_box : Array (Option Value)}
    (l_point_box : K.lookup f_point_box = some ⟨oc_point_box, od_point_box, .func (PySem.W.fnOf "point_box" "point_box" (defArgs s_point_box) (defBody s_point_box) (defScope s_point_box) .none kV_point_box dc_point_box pm_point_box an_point_box cd_point_box ct_point_box), sl_point_box⟩)
    (c_point_box : PySem.W.codeIn K cd_point_box "point_box" = true)
    (k_point_box : PySem.W.keepIn K (.ref f_point_box) = true)
    (a_in_box : PySem.W.nsIn K mainGlobals "in_box" = some (some (.ref f_in_box)))
    {oc_in_box kV_in_box dc_in_box pm_in_box cd_in_box ct_in_box : Value} {od_in_box an_in_box : Option Addr} {sl_in_box : Array (Option Value)}
    (l_in_box : K.lookup f_in_box = some ⟨oc_in_box, od_in_box, .func (PySem.W.fnOf "in_box" "in_box" (defArgs s_in_box) (defBody s_in_box) (defScope s_in_box) .none kV_in_box dc_in_box pm_in_box an_in_box cd_in_box ct_in_box), sl_in_box⟩)
    (c_in_box : PySem.W.codeIn K cd_in_box "in_box" = true)
    (k_in_box : PySem.W.keepIn K (.ref f_in_box) = true)
    (a_within : PySem.W.nsIn K mainGlobals "within" = some (some (.ref f_within)))
    {oc_within kV_within dc_within pm_within cd_within ct_within : Value} {od_within an_within : Option Addr} {sl_within : Array (Option Value)}
    (l_within : K.lookup f_within = some ⟨oc_within, od_within, .func (PySem.W.fnOf "within" "within" (defArgs s_within) (defBody s_within) (defScope s_within) .none kV_within dc_within pm_within an_within cd_within ct_within), sl_within⟩)
    (c_within : PySem.W.codeIn K cd_within "within" = true)
    (k_within : PySem.W.keepIn K (.ref f_within) = true)
    (a_common_box : PySem.W.nsIn K mainGlobals "common_box" = some (some (.ref f_common_box)))
    {oc_common_box kV_common_box dc_common_box pm_common_box cd_common_box ct_common_box : Value} {od_common_box an_common_box : Option Addr} {sl_common_box : Array (Option Value)}
    (l_common_box : K.lookup f_common_box = some ⟨oc_common_box, od_common_box, .func (PySem.W.fnOf "common_box" "common_box" (defArgs s_common_box) (defBody s_common_box) (defScope s_common_box) .none kV_common_box dc_common_box pm_common_box an_common_box cd_common_box ct_common_box), sl_common_box⟩)
    (c_common_box : PySem.W.codeIn K cd_common_box "common_box" = true)
    (k_common_box : PySem.W.keepIn K (.ref f_common_box) = true)
    (a_joined_box : PySem.W.nsIn K mainGlobals "joined_box" = some (some (.ref f_joined_box)))
    {oc_joined_box kV_joined_box dc_joined_box pm_joined_box cd_joined_box ct_joined_box : Value} {od_joined_box an_joined_box : Option Addr} {sl_joined_box : Array (Option Value)}
    (l_joined_box : K.lookup f_joined_box = some ⟨oc_joined_box, od_joined_box, .func (PySem.W.fnOf "joined_box" "joined_box" (defArgs s_joined_box) (defBody s_joined_box) (defScope s_joined_box) .none kV_joined_box dc_joined_box pm_joined_box an_joined_box cd_joined_box ct_joined_box), sl_joined_box⟩)
    (c_joined_box : PySem.W.codeIn K cd_joined_box "joined_box" = true)
    (k_joined_box : PySem.W.keepIn K (.ref f_joined_box) = true)
    (a_box_ends : PySem.W.nsIn K mainGlobals "box_ends" = some (some (.ref f_box_ends)))
    {oc_box_ends kV_box_ends dc_box_ends pm_box_ends cd_box_ends ct_box_ends : Value} {od_box_ends an_box_ends : Option Addr} {sl_box_ends : Array (Option Value)}
    (l_box_ends : K.lookup f_box_ends = some ⟨oc_box_ends, od_box_ends, .func (PySem.W.fnOf "box_ends" "box_ends" (defArgs s_box_ends) (defBody s_box_ends) (defScope s_box_ends) .none kV_box_ends dc_box_ends pm_box_ends an_box_ends cd_box_ends ct_box_ends), sl_box_ends⟩)
    (c_box_ends : PySem.W.codeIn K cd_box_ends "box_ends" = true)
    (k_box_ends : PySem.W.keepIn K (.ref f_box_ends) = true)
    (a_only_ends : PySem.W.nsIn K mainGlobals "only_ends" = some (some (.ref f_only_ends)))
    {oc_only_ends kV_only_ends dc_only_ends pm_only_ends cd_only_ends ct_only_ends : Value} {od_only_ends an_only_ends : Option Addr} {sl_only_ends : Array (Option Value)}
    (l_only_ends : K.lookup f_only_ends = some ⟨oc_only_ends, od_only_ends, .func (PySem.W.fnOf "only_ends" "only_ends" (defArgs s_only_ends) (defBody s_only_ends) (defScope s_only_ends) .none kV_only_ends dc_only_ends pm_only_ends an_only_ends cd_only_ends ct_only_ends), sl_only_ends⟩)
    (c_only_ends : PySem.W.codeIn K cd_only_ends "only_ends" = true)
    (k_only_ends : PySem.W.keepIn K (.ref f_only_ends) = true)
    (a_with_range : PySem.W.nsIn K mainGlobals "with_range" = some (some (.ref f_with_range)))
    {oc_with_range kV_with_range dc_with_range pm_with_range cd_with_range ct_with_range : Value} {od_with_range an_with_range : Option Addr} {sl_with_range : Array (Option Value)}
    (l_with_range : K.lookup f_with_range = some ⟨oc_with_range, od_with_range, .func (PySem.W.fnOf "with_range" "with_range" (defArgs s_with_range) (defBody s_with_range) (defScope s_with_range) .none kV_with_range dc_with_range pm_with_range an_with_range cd_with_range ct_with_range), sl_with_range⟩)
    (c_with_range : PySem.W.codeIn K cd_with_range "with_range" = true)
    (k_with_range : PySem.W.keepIn K (.ref f_with_range) = true)
    (a_placed : PySem.W.nsIn K mainGlobals "placed" = some (some (.ref f_placed)))
    {oc_placed kV_placed dc_placed pm_placed cd_placed ct_placed : Value} {od_placed an_placed : Option Addr} {sl_placed : Array (Option Value)}
    (l_placed : K.lookup f_placed = some ⟨oc_placed, od_placed, .func (PySem.W.fnOf "placed" "placed" (defArgs s_placed) (defBody s_placed) (defScope s_placed) .none kV_placed dc_placed pm_placed an_placed cd_placed ct_placed), sl_placed⟩)
    (c_placed : PySem.W.codeIn K cd_placed "placed" = true)
    (k_placed : PySem.W.keepIn K (.ref f_placed) = true)
    (a_halves : PySem.W.nsIn K mainGlobals "halves" = some (some (.ref f_halves)))
    {oc_halves kV_halves dc_halves pm_halves cd_halves ct_halves : Value} {od_halves an_halves : Option Addr} {sl_halves : Array (Option Value)}
    (l_halves : K.lookup f_halves = some ⟨oc_halves, od_halves, .func (PySem.W.fnOf "halves" "halves" (defArgs s_halves) (defBody s_halves) (defScope s_halves) .none kV_halves dc_halves pm_halves an_halves cd_halves ct_halves), sl_halves⟩)
    (c_halves : PySem.W.codeIn K cd_halves "halves" = true)
    (k_halves : PySem.W.keepIn K (.ref f_halves) = true)
    (a_is_name : PySem.W.nsIn K mainGlobals "is_name" = some (some (.ref f_is_name)))
    {oc_is_name kV_is_name dc_is_name pm_is_name cd_is_name ct_is_name : Value} {od_is_name an_is_name : Option Addr} {sl_is_name : Array (Option Value)}
    (l_is_name : K.lookup f_is_name = some ⟨oc_is_name, od_is_name, .func (PySem.W.fnOf "is_name" "is_name" (defArgs s_is_name) (defBody s_is_name) (defScope s_is_name) .none kV_is_name dc_is_name pm_is_name an_is_name cd_is_name ct_is_name), sl_is_name⟩)
    (c_is_name : PySem.W.codeIn K cd_is_name "is_name" = true)
    (k_is_name : PySem.W.keepIn K (.ref f_is_name) = true)
    (a_is_name_lot : PySem.W.nsIn K mainGlobals "is_name_lot" = some (some (.ref f_is_name_lot)))
    {oc_is_name_lot kV_is_name_lot dc_is_name_lot pm_is_name_lot cd_is_name_lot ct_is_name_lot : Value} {od_is_name_lot an_is_name_lot : Option Addr} {sl_is_name_lot : Array (Option Value)}
    (l_is_name_lot : K.lookup f_is_name_lot = some ⟨oc_is_name_lot, od_is_name_lot, .func (PySem.W.fnOf "is_name_lot" "is_name_lot" (defArgs s_is_name_lot) (defBody s_is_name_lot) (defScope s_is_name_lot) .none kV_is_name_lot dc_is_name_lot pm_is_name_lot an_is_name_lot cd_is_name_lot ct_is_name_lot), sl_is_name_lot⟩)
    (c_is_name_lot : PySem.W.codeIn K cd_is_name_lot "is_name_lot" = true)
    (k_is_name_lot : PySem.W.keepIn K (.ref f_is_name_lot) = true)
    (a_check_system : PySem.W.nsIn K mainGlobals "check_system" = some (some (.ref f_check_system)))
    {oc_check_system kV_check_system dc_check_system pm_check_system cd_check_system ct_check_system : Value} {od_check_system an_check_system : Option Addr} {sl_check_system : Array (Option Value)}
    (l_check_system : K.lookup f_check_system = some ⟨oc_check_system, od_check_system, .func (PySem.W.fnOf "check_system" "check_system" (defArgs s_check_system) (defBody s_check_system) (defScope s_check_system) .none kV_check_system dc_check_system pm_check_system an_check_system cd_check_system ct_check_system), sl_check_system⟩)
    (c_check_system : PySem.W.codeIn K cd_check_system "check_system" = true)
    (k_check_system : PySem.W.keepIn K (.ref f_check_system) = true)
    (a_free_box : PySem.W.nsIn K mainGlobals "free_box" = some (some (.ref f_free_box)))
    {oc_free_box kV_free_box dc_free_box pm_free_box cd_free_box ct_free_box : Value} {od_free_box an_free_box : Option Addr} {sl_free_box : Array (Option Value)}
    (l_free_box : K.lookup f_free_box = some ⟨oc_free_box, od_free_box, .func (PySem.W.fnOf "free_box" "free_box" (defArgs s_free_box) (defBody s_free_box) (defScope s_free_box) .none kV_free_box dc_free_box pm_free_box an_free_box cd_free_box ct_free_box), sl_free_box⟩)
    (c_free_box : PySem.W.codeIn K cd_free_box "free_box" = true)
    (k_free_box : PySem.W.keepIn K (.ref f_free_box) = true)
    (a__law_heap : PySem.W.nsIn K mainGlobals "_law_heap" = some (some (.ref f__law_heap)))
    {oc__law_heap kV__law_heap dc__law_heap pm__law_heap cd__law_heap ct__law_heap : Value} {od__law_heap an__law_heap : Option Addr} {sl__law_heap : Array (Option Value)}
    (l__law_heap : K.lookup f__law_heap = some ⟨oc__law_heap, od__law_heap, .func (PySem.W.fnOf "_law_heap" "_law_heap" (defArgs s__law_heap) (defBody s__law_heap) (defScope s__law_heap) .none kV__law_heap dc__law_heap pm__law_heap an__law_heap cd__law_heap ct__law_heap), sl__law_heap⟩)
    (c__law_heap : PySem.W.codeIn K cd__law_heap "_law_heap" = true)
    (k__law_heap : PySem.W.keepIn K (.ref f__law_heap) = true)
    (a__law_draw : PySem.W.nsIn K mainGlobals "_law_draw" = some (some (.ref f__law_draw)))
    {oc__law_draw kV__law_draw dc__law_draw pm__law_draw cd__law_draw ct__law_draw : Value} {od__law_draw an__law_draw : Option Addr} {sl__law_draw : Array (Option Value)}
    (l__law_draw : K.lookup f__law_draw = some ⟨oc__law_draw, od__law_draw, .func (PySem.W.fnOf "_law_draw" "_law_draw" (defArgs s__law_draw) (defBody s__law_draw) (defScope s__law_draw) .none kV__law_draw dc__law_draw pm__law_draw an__law_draw cd__law_draw ct__law_draw), sl__law_draw⟩)
    (c__law_draw : PySem.W.codeIn K cd__law_draw "_law_draw" = true)
    (k__law_draw : PySem.W.keepIn K (.ref f__law_draw) = true)
    (a__law_pick : PySem.W.nsIn K mainGlobals "_law_pick" = some (some (.ref f__law_pick)))
    {oc__law_pick kV__law_pick dc__law_pick pm__law_pick cd__law_pick ct__law_pick : Value} {od__law_pick an__law_pick : Option Addr} {sl__law_pick : Array (Option Value)}
    (l__law_pick : K.lookup f__law_pick = some ⟨oc__law_pick, od__law_pick, .func (PySem.W.fnOf "_law_pick" "_law_pick" (defArgs s__law_pick) (defBody s__law_pick) (defScope s__law_pick) .none kV__law_pick dc__law_pick pm__law_pick an__law_pick cd__law_pick ct__law_pick), sl__law_pick⟩)
    (c__law_pick : PySem.W.codeIn K cd__law_pick "_law_pick" = true)
    (k__law_pick : PySem.W.keepIn K (.ref f__law_pick) = true)
    (a__law_lowest : PySem.W.nsIn K mainGlobals "_law_lowest" = some (some (.ref f__law_lowest)))
    {oc__law_lowest kV__law_lowest dc__law_lowest pm__law_lowest cd__law_lowest ct__law_lowest : Value} {od__law_lowest an__law_lowest : Option Addr} {sl__law_lowest : Array (Option Value)}
    (l__law_lowest : K.lookup f__law_lowest = some ⟨oc__law_lowest, od__law_lowest, .func (PySem.W.fnOf "_law_lowest" "_law_lowest" (defArgs s__law_lowest) (defBody s__law_lowest) (defScope s__law_lowest) .none kV__law_lowest dc__law_lowest pm__law_lowest an__law_lowest cd__law_lowest ct__law_lowest), sl__law_lowest⟩)
    (c__law_lowest : PySem.W.codeIn K cd__law_lowest "_law_lowest" = true)
    (k__law_lowest : PySem.W.keepIn K (.ref f__law_lowest) = true)
    (a__law_end : PySem.W.nsIn K mainGlobals "_law_end" = some (some (.ref f__law_end)))
    {oc__law_end kV__law_end dc__law_end pm__law_end cd__law_end ct__law_end : Value} {od__law_end an__law_end : Option Addr} {sl__law_end : Array (Option Value)}
    (l__law_end : K.lookup f__law_end = some ⟨oc__law_end, od__law_end, .func (PySem.W.fnOf "_law_end" "_law_end" (defArgs s__law_end) (defBody s__law_end) (defScope s__law_end) .none kV__law_end dc__law_end pm__law_end an__law_end cd__law_end ct__law_end), sl__law_end⟩)
    (c__law_end : PySem.W.codeIn K cd__law_end "_law_end" = true)
    (k__law_end : PySem.W.keepIn K (.ref f__law_end) = true)
    (a__law_range : PySem.W.nsIn K mainGlobals "_law_range" = some (some (.ref f__law_range)))
    {oc__law_range kV__law_range dc__law_range pm__law_range cd__law_range ct__law_range : Value} {od__law_range an__law_range : Option Addr} {sl__law_range : Array (Option Value)}
    (l__law_range : K.lookup f__law_range = some ⟨oc__law_range, od__law_range, .func (PySem.W.fnOf "_law_range" "_law_range" (defArgs s__law_range) (defBody s__law_range) (defScope s__law_range) .none kV__law_range dc__law_range pm__law_range an__law_range cd__law_range ct__law_range), sl__law_range⟩)
    (c__law_range : PySem.W.codeIn K cd__law_range "_law_range" = true)
    (k__law_range : PySem.W.keepIn K (.ref f__law_range) = true)
    (a__law_has : PySem.W.nsIn K mainGlobals "_law_has" = some (some (.ref f__law_has)))
    {oc__law_has kV__law_has dc__law_has pm__law_has cd__law_has ct__law_has : Value} {od__law_has an__law_has : Option Addr} {sl__law_has : Array (Option Value)}
    (l__law_has : K.lookup f__law_has = some ⟨oc__law_has, od__law_has, .func (PySem.W.fnOf "_law_has" "_law_has" (defArgs s__law_has) (defBody s__law_has) (defScope s__law_has) .none kV__law_has dc__law_has pm__law_has an__law_has cd__law_has ct__law_has), sl__law_has⟩)
    (c__law_has : PySem.W.codeIn K cd__law_has "_law_has" = true)
    (k__law_has : PySem.W.keepIn K (.ref f__law_has) = true)
    (a__law_all_in : PySem.W.nsIn K mainGlobals "_law_all_in" = some (some (.ref f__law_all_in)))
    {oc__law_all_in kV__law_all_in dc__law_all_in pm__law_all_in cd__law_all_in ct__law_all_in : Value} {od__law_all_in an__law_all_in : Option Addr} {sl__law_all_in : Array (Option Value)}
    (l__law_all_in : K.lookup f__law_all_in = some ⟨oc__law_all_in, od__law_all_in, .func (PySem.W.fnOf "_law_all_in" "_law_all_in" (defArgs s__law_all_in) (defBody s__law_all_in) (defScope s__law_all_in) .none kV__law_all_in dc__law_all_in pm__law_all_in an__law_all_in cd__law_all_in ct__law_all_in), sl__law_all_in⟩)
    (c__law_all_in : PySem.W.codeIn K cd__law_all_in "_law_all_in" = true)
    (k__law_all_in : PySem.W.keepIn K (.ref f__law_all_in) = true)
    (a__law_shown : PySem.W.nsIn K mainGlobals "_law_shown" = some (some (.ref f__law_shown)))
    {oc__law_shown kV__law_shown dc__law_shown pm__law_shown cd__law_shown ct__law_shown : Value} {od__law_shown an__law_shown : Option Addr} {sl__law_shown : Array (Option Value)}
    (l__law_shown : K.lookup f__law_shown = some ⟨oc__law_shown, od__law_shown, .func (PySem.W.fnOf "_law_shown" "_law_shown" (defArgs s__law_shown) (defBody s__law_shown) (defScope s__law_shown) .none kV__law_shown dc__law_shown pm__law_shown an__law_shown cd__law_shown ct__law_shown), sl__law_shown⟩)
    (c__law_shown : PySem.W.codeIn K cd__law_shown "_law_shown" = true)
    (k__law_shown : PySem.W.keepIn K (.ref f__law_shown) = true)
    (a__law_fractions : PySem.W.nsIn K mainGlobals "_law_fractions" = some (some (.ref f__law_fractions)))
    {oc__law_fractions kV__law_fractions dc__law_fractions pm__law_fractions cd__law_fractions ct__law_fractions : Value} {od__law_fractions an__law_fractions : Option Addr} {sl__law_fractions : Array (Option Value)}
    (l__law_fractions : K.lookup f__law_fractions = some ⟨oc__law_fractions, od__law_fractions, .func (PySem.W.fnOf "_law_fractions" "_law_fractions" (defArgs s__law_fractions) (defBody s__law_fractions) (defScope s__law_fractions) .none kV__law_fractions dc__law_fractions pm__law_fractions an__law_fractions cd__law_fractions ct__law_fractions), sl__law_fractions⟩)
    (c__law_fractions : PySem.W.codeIn K cd__law_fractions "_law_fractions" = true)
    (k__law_fractions : PySem.W.keepIn K (.ref f__law_fractions) = true)
    (a__law_tests : PySem.W.nsIn K mainGlobals "_law_tests" = some (some (.ref f__law_tests)))
    {oc__law_tests kV__law_tests dc__law_tests pm__law_tests cd__law_tests ct__law_tests : Value} {od__law_tests an__law_tests : Option Addr} {sl__law_tests : Array (Option Value)}
    (l__law_tests : K.lookup f__law_tests = some ⟨oc__law_tests, od__law_tests, .func (PySem.W.fnOf "_law_tests" "_law_tests" (defArgs s__law_tests) (defBody s__law_tests) (defScope s__law_tests) .none kV__law_tests dc__law_tests pm__law_tests an__law_tests cd__law_tests ct__law_tests), sl__law_tests⟩)
    (c__law_tests : PySem.W.codeIn K cd__law_tests "_law_tests" = true)
    (k__law_tests : PySem.W.keepIn K (.ref f__law_tests) = true)
    (a__law_is_end : PySem.W.nsIn K mainGlobals "_law_is_end" = some (some (.ref f__law_is_end)))
    {oc__law_is_end kV__law_is_end dc__law_is_end pm__law_is_end cd__law_is_end ct__law_is_end : Value} {od__law_is_end an__law_is_end : Option Addr} {sl__law_is_end : Array (Option Value)}
    (l__law_is_end : K.lookup f__law_is_end = some ⟨oc__law_is_end, od__law_is_end, .func (PySem.W.fnOf "_law_is_end" "_law_is_end" (defArgs s__law_is_end) (defBody s__law_is_end) (defScope s__law_is_end) .none kV__law_is_end dc__law_is_end pm__law_is_end an__law_is_end cd__law_is_end ct__law_is_end), sl__law_is_end⟩)
    (c__law_is_end : PySem.W.codeIn K cd__law_is_end "_law_is_end" = true)
    (k__law_is_end : PySem.W.keepIn K (.ref f__law_is_end) = true)
    (a__law_told_has : PySem.W.nsIn K mainGlobals "_law_told_has" = some (some (.ref f__law_told_has)))
    {oc__law_told_has kV__law_told_has dc__law_told_has pm__law_told_has cd__law_told_has ct__law_told_has : Value} {od__law_told_has an__law_told_has : Option Addr} {sl__law_told_has : Array (Option Value)}
    (l__law_told_has : K.lookup f__law_told_has = some ⟨oc__law_told_has, od__law_told_has, .func (PySem.W.fnOf "_law_told_has" "_law_told_has" (defArgs s__law_told_has) (defBody s__law_told_has) (defScope s__law_told_has) .none kV__law_told_has dc__law_told_has pm__law_told_has an__law_told_has cd__law_told_has ct__law_told_has), sl__law_told_has⟩)
    (c__law_told_has : PySem.W.codeIn K cd__law_told_has "_law_told_has" = true)
    (k__law_told_has : PySem.W.keepIn K (.ref f__law_told_has) = true)
    (a__law_box_right : PySem.W.nsIn K mainGlobals "_law_box_right" = some (some (.ref f__law_box_right)))
    {oc__law_box_right kV__law_box_right dc__law_box_right pm__law_box_right cd__law_box_right ct__law_box_right : Value} {od__law_box_right an__law_box_right : Option Addr} {sl__law_box_right : Array (Option Value)}
    (l__law_box_right : K.lookup f__law_box_right = some ⟨oc__law_box_right, od__law_box_right, .func (PySem.W.fnOf "_law_box_right" "_law_box_right" (defArgs s__law_box_right) (defBody s__law_box_right) (defScope s__law_box_right) .none kV__law_box_right dc__law_box_right pm__law_box_right an__law_box_right cd__law_box_right ct__law_box_right), sl__law_box_right⟩)
    (c__law_box_right : PySem.W.codeIn K cd__law_box_right "_law_box_right" = true)
    (k__law_box_right : PySem.W.keepIn K (.ref f__law_box_right) = true)
    (a__law_two_right : PySem.W.nsIn K mainGlobals "_law_two_right" = some (some (.ref f__law_two_right)))
    {oc__law_two_right kV__law_two_right dc__law_two_right pm__law_two_right cd__law_two_right ct__law_two_right : Value} {od__law_two_right an__law_two_right : Option Addr} {sl__law_two_right : Array (Option Value)}
    (l__law_two_right : K.lookup f__law_two_right = some ⟨oc__law_two_right, od__law_two_right, .func (PySem.W.fnOf "_law_two_right" "_law_two_right" (defArgs s__law_two_right) (defBody s__law_two_right) (defScope s__law_two_right) .none kV__law_two_right dc__law_two_right pm__law_two_right an__law_two_right cd__law_two_right ct__law_two_right), sl__law_two_right⟩)
    (c__law_two_right : PySem.W.codeIn K cd__law_two_right "_law_two_right" = true)
    (k__law_two_right : PySem.W.keepIn K (.ref f__law_two_right) = true)
    (a__law_fit : PySem.W.nsIn K mainGlobals "_law_fit" = some (some (.ref f__law_fit)))
    {oc__law_fit kV__law_fit dc__law_fit pm__law_fit cd__law_fit ct__law_fit : Value} {od__law_fit an__law_fit : Option Addr} {sl__law_fit : Array (Option Value)}
    (l__law_fit : K.lookup f__law_fit = some ⟨oc__law_fit, od__law_fit, .func (PySem.W.fnOf "_law_fit" "_law_fit" (defArgs s__law_fit) (defBody s__law_fit) (defScope s__law_fit) .none kV__law_fit dc__law_fit pm__law_fit an__law_fit cd__law_fit ct__law_fit), sl__law_fit⟩)
    (c__law_fit : PySem.W.codeIn K cd__law_fit "_law_fit" = true)
    (k__law_fit : PySem.W.keepIn K (.ref f__law_fit) = true)
    (a__law_cut_right : PySem.W.nsIn K mainGlobals "_law_cut_right" = some (some (.ref f__law_cut_right)))
    {oc__law_cut_right kV__law_cut_right dc__law_cut_right pm__law_cut_right cd__law_cut_right ct__law_cut_right : Value} {od__law_cut_right an__law_cut_right : Option Addr} {sl__law_cut_right : Array (Option Value)}
    (l__law_cut_right : K.lookup f__law_cut_right = some ⟨oc__law_cut_right, od__law_cut_right, .func (PySem.W.fnOf "_law_cut_right" "_law_cut_right" (defArgs s__law_cut_right) (defBody s__law_cut_right) (defScope s__law_cut_right) .none kV__law_cut_right dc__law_cut_right pm__law_cut_right an__law_cut_right cd__law_cut_right ct__law_cut_right), sl__law_cut_right⟩)
    (c__law_cut_right : PySem.W.codeIn K cd__law_cut_right "_law_cut_right" = true)
    (k__law_cut_right : PySem.W.keepIn K (.ref f__law_cut_right) = true)
    (a__law_ends_right : PySem.W.nsIn K mainGlobals "_law_ends_right" = some (some (.ref f__law_ends_right)))
    {oc__law_ends_right kV__law_ends_right dc__law_ends_right pm__law_ends_right cd__law_ends_right ct__law_ends_right : Value} {od__law_ends_right an__law_ends_right : Option Addr} {sl__law_ends_right : Array (Option Value)}
    (l__law_ends_right : K.lookup f__law_ends_right = some ⟨oc__law_ends_right, od__law_ends_right, .func (PySem.W.fnOf "_law_ends_right" "_law_ends_right" (defArgs s__law_ends_right) (defBody s__law_ends_right) (defScope s__law_ends_right) .none kV__law_ends_right dc__law_ends_right pm__law_ends_right an__law_ends_right cd__law_ends_right ct__law_ends_right), sl__law_ends_right⟩)
    (c__law_ends_right : PySem.W.codeIn K cd__law_ends_right "_law_ends_right" = true)
    (k__law_ends_right : PySem.W.keepIn K (.ref f__law_ends_right) = true)
    (a__law_points_right : PySem.W.nsIn K mainGlobals "_law_points_right" = some (some (.ref f__law_points_right)))
    {oc__law_points_right kV__law_points_right dc__law_points_right pm__law_points_right cd__law_points_right ct__law_points_right : Value} {od__law_points_right an__law_points_right : Option Addr} {sl__law_points_right : Array (Option Value)}
    (l__law_points_right : K.lookup f__law_points_right = some ⟨oc__law_points_right, od__law_points_right, .func (PySem.W.fnOf "_law_points_right" "_law_points_right" (defArgs s__law_points_right) (defBody s__law_points_right) (defScope s__law_points_right) .none kV__law_points_right dc__law_points_right pm__law_points_right an__law_points_right cd__law_points_right ct__law_points_right), sl__law_points_right⟩)
    (c__law_points_right : PySem.W.codeIn K cd__law_points_right "_law_points_right" = true)
    (k__law_points_right : PySem.W.keepIn K (.ref f__law_points_right) = true)
    (a_law : PySem.W.nsIn K mainGlobals "law" = some (some (.ref f_law)))
    {oc_law kV_law dc_law pm_law cd_law ct_law : Value} {od_law an_law : Option Addr} {sl_law : Array (Option Value)}
    (l_law : K.lookup f_law = some ⟨oc_law, od_law, .func (PySem.W.fnOf "law" "law" (defArgs s_law) (defBody s_law) (defScope s_law) .none kV_law dc_law pm_law an_law cd_law ct_law), sl_law⟩)
    (c_law : PySem.W.codeIn K cd_law "law" = true)
    (k_law : PySem.W.keepIn K (.ref f_law) = true)
    (aC : PySem.W.nsIn K mainGlobals "System" = some (some (.ref C)))
    (aI : PySem.W.findIn K (.ref C) "__init__" = some (some (.ref f_Init)))
    (iI : PySem.W.isFn K (.ref f_Init) = true)
    {oc_Init kV_Init dc_Init pm_Init cd_Init ct_Init : Value} {od_Init an_Init : Option Addr} {sl_Init : Array (Option Value)}
    (l_Init : K.lookup f_Init = some ⟨oc_Init, od_Init, .func (PySem.W.fnOf "__init__" "System.__init__" (defArgs s_Init) (defBody s_Init) (defScope s_Init) .none kV_Init dc_Init pm_Init an_Init cd_Init ct_Init), sl_Init⟩)
    (c_Init : PySem.W.codeIn K cd_Init "System.__init__" = true)
    (k_Init : PySem.W.keepIn K (.ref f_Init) = true)
    (pg : PySem.W.plainGet K C Str.empty = true)
    (hd : PySem.W.hasDictIn K C = true)
    (po : PySem.W.plainOver K C = true)
    (sa : PySem.W.findIn K (.ref C) "__setattr__" = some (some (.builtin "object.__setattr__")))
    (mk : PySem.W.makesIn K C = true)
    (kc : PySem.W.keepIn K (.ref C) = true)
    (nN : PySem.W.findIn K (.ref C) "names" = some none)
    (nR : PySem.W.findIn K (.ref C) "rows" = some none)
    {t1 t2 t3 : Tok}
    (v1 : PySem.W.nsIn K mainGlobals "LETTERS" = some (some (.str "abcdefghijklmnopqrstuvwxyz" t1)))
    (v2 : PySem.W.nsIn K mainGlobals "LONGEST_NAME" = some (some (.int 5 t2)))
    (v3 : PySem.W.nsIn K mainGlobals "MOST_NAMES" = some (some (.int 6 t3)))
    (z_abs : PySem.W.nsIn K mainGlobals "abs" = some none)
    (z_int : PySem.W.nsIn K mainGlobals "int" = some none)
    (z_len : PySem.W.nsIn K mainGlobals "len" = some none)
    (z_min : PySem.W.nsIn K mainGlobals "min" = some none)
    (z_max : PySem.W.nsIn K mainGlobals "max" = some none)
    (z_any : PySem.W.nsIn K mainGlobals "any" = some none)
    (z_all : PySem.W.nsIn K mainGlobals "all" = some none)
    (z_tuple : PySem.W.nsIn K mainGlobals "tuple" = some none)
    (z_range : PySem.W.nsIn K mainGlobals "range" = some none)
    (z_enumerate : PySem.W.nsIn K mainGlobals "enumerate" = some none)
    (z_zip : PySem.W.nsIn K mainGlobals "zip" = some none)
    (z_isinstance : PySem.W.nsIn K mainGlobals "isinstance" = some none)
    (z_repr : PySem.W.nsIn K mainGlobals "repr" = some none)
    (z_sorted : PySem.W.nsIn K mainGlobals "sorted" = some none)
    (z_set : PySem.W.nsIn K mainGlobals "set" = some none)
    (z_list : PySem.W.nsIn K mainGlobals "list" = some none)
    (z_str : PySem.W.nsIn K mainGlobals "str" = some none)
    (z_bool : PySem.W.nsIn K mainGlobals "bool" = some none) :
    ∃ fd : FuncData, (∀ (s : Shared) (v : Value), BindsTo s fd ⟨[v], []⟩ [("_law_script", v)]) ∧ ∀ base : Heap, K.In base → base.Ns mainGlobals mg → FnG l.prog w K mg base 6 fa fd ["_law_script"] (spLaw K) := by
  have e := hfa.symm.trans (PySem.W.mg_of X G a_law)
  cases e
  have B : Blt mg := ⟨PySem.W.mg_none_of X G z_abs, PySem.W.mg_none_of X G z_int, PySem.W.mg_none_of X G z_len, PySem.W.mg_none_of X G z_min, PySem.W.mg_none_of X G z_max, PySem.W.mg_none_of X G z_any, PySem.W.mg_none_of X G z_all, PySem.W.mg_none_of X G z_tuple, PySem.W.mg_none_of X G z_range, PySem.W.mg_none_of X G z_enumerate, PySem.W.mg_none_of X G z_zip, PySem.W.mg_none_of X G z_isinstance, PySem.W.mg_none_of X G z_repr, PySem.W.mg_none_of X G z_sorted, PySem.W.mg_none_of X G z_set, PySem.W.mg_none_of X G z_list, PySem.W.mg_none_of X G z_str, PySem.W.mg_none_of X G z_bool⟩
  have q1 : ∃ t, mg "LETTERS" = some (.str "abcdefghijklmnopqrstuvwxyz" t) := ⟨_, PySem.W.mg_of X G v1⟩
  have q2 : ∃ t, mg "LONGEST_NAME" = some (.int 5 t) := ⟨_, PySem.W.mg_of X G v2⟩
  have q3 : ∃ t, mg "MOST_NAMES" = some (.int 6 t) := ⟨_, PySem.W.mg_of X G v3⟩
  have T : SysT K C := ⟨⟨pg, hd, po, sa⟩, nN, nR⟩
  refine ⟨PySem.W.fnOf "law" "law" (defArgs s_law) (defBody s_law) (defScope s_law) .none kV_law dc_law pm_law an_law cd_law ct_law, fun s v => .of_eq rfl, fun base _ _ => ?_⟩
  have F_less := fun_mk (st := s_less) l_less c_less k_less
  have b_less := F_less.binds (ps := p_less) fun _ _ _ _ _ _ us hl => match us, hl with | [_, _], _ => rfl
  have r_less := Bx.Fun.kbR F_less (ps := p_less) (by decide) fun _ _ _ _ _ _ us hl => match us, hl with | [_, _], _ => rfl
  have C_less : Cal l.prog w K mg base _ "less" p_less _ := ⟨_, _, ok_less F_less B, PySem.W.mg_of X G a_less, k_less, b_less, r_less⟩
  have F_is_above := fun_mk (st := s_is_above) l_is_above c_is_above k_is_above
  have b_is_above := F_is_above.binds (ps := p_is_above) fun _ _ _ _ _ _ us hl => match us, hl with | [_, _], _ => rfl
  have r_is_above := Bx.Fun.kbR F_is_above (ps := p_is_above) (by decide) fun _ _ _ _ _ _ us hl => match us, hl with | [_, _], _ => rfl
  have C_is_above : Cal l.prog w K mg base _ "is_above" p_is_above _ := ⟨_, _, ok_is_above F_is_above B C_less, PySem.W.mg_of X G a_is_above, k_is_above, b_is_above, r_is_above⟩
  have F_is_between := fun_mk (st := s_is_between) l_is_between c_is_between k_is_between
  have b_is_between := F_is_between.binds (ps := p_is_between) fun _ _ _ _ _ _ us hl => match us, hl with | [_, _], _ => rfl
  have r_is_between := Bx.Fun.kbR F_is_between (ps := p_is_between) (by decide) fun _ _ _ _ _ _ us hl => match us, hl with | [_, _], _ => rfl
  have C_is_between : Cal l.prog w K mg base _ "is_between" p_is_between _ := ⟨_, _, ok_is_between F_is_between B C_is_above, PySem.W.mg_of X G a_is_between, k_is_between, b_is_between, r_is_between⟩
  have F_sharper_low := fun_mk (st := s_sharper_low) l_sharper_low c_sharper_low k_sharper_low
  have b_sharper_low := F_sharper_low.binds (ps := p_sharper_low) fun _ _ _ _ _ _ us hl => match us, hl with | [_, _], _ => rfl
  have r_sharper_low := Bx.Fun.kbR F_sharper_low (ps := p_sharper_low) (by decide) fun _ _ _ _ _ _ us hl => match us, hl with | [_, _], _ => rfl
  have C_sharper_low : Cal l.prog w K mg base _ "sharper_low" p_sharper_low _ := ⟨_, _, ok_sharper_low F_sharper_low B C_less, PySem.W.mg_of X G a_sharper_low, k_sharper_low, b_sharper_low, r_sharper_low⟩
  have F_sharper_high := fun_mk (st := s_sharper_high) l_sharper_high c_sharper_high k_sharper_high
  have b_sharper_high := F_sharper_high.binds (ps := p_sharper_high) fun _ _ _ _ _ _ us hl => match us, hl with | [_, _], _ => rfl
  have r_sharper_high := Bx.Fun.kbR F_sharper_high (ps := p_sharper_high) (by decide) fun _ _ _ _ _ _ us hl => match us, hl with | [_, _], _ => rfl
  have C_sharper_high : Cal l.prog w K mg base _ "sharper_high" p_sharper_high _ := ⟨_, _, ok_sharper_high F_sharper_high B C_less, PySem.W.mg_of X G a_sharper_high, k_sharper_high, b_sharper_high, r_sharper_high⟩
  have F_wider_low := fun_mk (st := s_wider_low) l_wider_low c_wider_low k_wider_low
  have b_wider_low := F_wider_low.binds (ps := p_wider_low) fun _ _ _ _ _ _ us hl => match us, hl with | [_, _], _ => rfl
  have r_wider_low := Bx.Fun.kbR F_wider_low (ps := p_wider_low) (by decide) fun _ _ _ _ _ _ us hl => match us, hl with | [_, _], _ => rfl
  have C_wider_low : Cal l.prog w K mg base _ "wider_low" p_wider_low _ := ⟨_, _, ok_wider_low F_wider_low B C_sharper_high, PySem.W.mg_of X G a_wider_low, k_wider_low, b_wider_low, r_wider_low⟩
  have F_wider_high := fun_mk (st := s_wider_high) l_wider_high c_wider_high k_wider_high
  have b_wider_high := F_wider_high.binds (ps := p_wider_high) fun _ _ _ _ _ _ us hl => match us, hl with | [_, _], _ => rfl
  have r_wider_high := Bx.Fun.kbR F_wider_high (ps := p_wider_high) (by decide) fun _ _ _ _ _ _ us hl => match us, hl with | [_, _], _ => rfl
  have C_wider_high : Cal l.prog w K mg base _ "wider_high" p_wider_high _ := ⟨_, _, ok_wider_high F_wider_high B C_sharper_low, PySem.W.mg_of X G a_wider_high, k_wider_high, b_wider_high, r_wider_high⟩
  have F_point_box := fun_mk (st := s_point_box) l_point_box c_point_box k_point_box
  have b_point_box := F_point_box.binds (ps := p_point_box) fun _ _ _ _ _ _ us hl => match us, hl with | [_], _ => rfl
  have r_point_box := Bx.Fun.kbR F_point_box (ps := p_point_box) (by decide) fun _ _ _ _ _ _ us hl => match us, hl with | [_], _ => rfl
  have C_point_box : Cal l.prog w K mg base _ "point_box" p_point_box _ := ⟨_, _, ok_point_box F_point_box B, PySem.W.mg_of X G a_point_box, k_point_box, b_point_box, r_point_box⟩
  have F_in_box := fun_mk (st := s_in_box) l_in_box c_in_box k_in_box
  have b_in_box := F_in_box.binds (ps := p_in_box) fun _ _ _ _ _ _ us hl => match us, hl with | [_, _], _ => rfl
  have r_in_box := Bx.Fun.kbR F_in_box (ps := p_in_box) (by decide) fun _ _ _ _ _ _ us hl => match us, hl with | [_, _], _ => rfl
  have C_in_box : Cal l.prog w K mg base _ "in_box" p_in_box _ := ⟨_, _, ok_in_box F_in_box B C_is_between, PySem.W.mg_of X G a_in_box, k_in_box, b_in_box, r_in_box⟩
  have F_within := fun_mk (st := s_within) l_within c_within k_within
  have b_within := F_within.binds (ps := p_within) fun _ _ _ _ _ _ us hl => match us, hl with | [_, _], _ => rfl
  have r_within := Bx.Fun.kbR F_within (ps := p_within) (by decide) fun _ _ _ _ _ _ us hl => match us, hl with | [_, _], _ => rfl
  have C_within : Cal l.prog w K mg base _ "within" p_within _ := ⟨_, _, ok_within F_within B C_wider_high C_wider_low, PySem.W.mg_of X G a_within, k_within, b_within, r_within⟩
  have F_common_box := fun_mk (st := s_common_box) l_common_box c_common_box k_common_box
  have b_common_box := F_common_box.binds (ps := p_common_box) fun _ _ _ _ _ _ us hl => match us, hl with | [_, _], _ => rfl
  have r_common_box := Bx.Fun.kbR F_common_box (ps := p_common_box) (by decide) fun _ _ _ _ _ _ us hl => match us, hl with | [_, _], _ => rfl
  have C_common_box : Cal l.prog w K mg base _ "common_box" p_common_box _ := ⟨_, _, ok_common_box F_common_box B C_is_above C_sharper_high C_sharper_low, PySem.W.mg_of X G a_common_box, k_common_box, b_common_box, r_common_box⟩
  have F_joined_box := fun_mk (st := s_joined_box) l_joined_box c_joined_box k_joined_box
  have b_joined_box := F_joined_box.binds (ps := p_joined_box) fun _ _ _ _ _ _ us hl => match us, hl with | [_, _], _ => rfl
  have r_joined_box := Bx.Fun.kbR F_joined_box (ps := p_joined_box) (by decide) fun _ _ _ _ _ _ us hl => match us, hl with | [_, _], _ => rfl
  have C_joined_box : Cal l.prog w K mg base _ "joined_box" p_joined_box _ := ⟨_, _, ok_joined_box F_joined_box B C_wider_high C_wider_low, PySem.W.mg_of X G a_joined_box, k_joined_box, b_joined_box, r_joined_box⟩
  have F_box_ends := fun_mk (st := s_box_ends) l_box_ends c_box_ends k_box_ends
  have b_box_ends := F_box_ends.binds (ps := p_box_ends) fun _ _ _ _ _ _ us hl => match us, hl with | [_], _ => rfl
  have r_box_ends := Bx.Fun.kbR F_box_ends (ps := p_box_ends) (by decide) fun _ _ _ _ _ _ us hl => match us, hl with | [_], _ => rfl
  have C_box_ends : Cal l.prog w K mg base _ "box_ends" p_box_ends _ := ⟨_, _, ok_box_ends F_box_ends B, PySem.W.mg_of X G a_box_ends, k_box_ends, b_box_ends, r_box_ends⟩
  have F_only_ends := fun_mk (st := s_only_ends) l_only_ends c_only_ends k_only_ends
  have b_only_ends := F_only_ends.binds (ps := p_only_ends) fun _ _ _ _ _ _ us hl => match us, hl with | [_, _], _ => rfl
  have r_only_ends := Bx.Fun.kbR F_only_ends (ps := p_only_ends) (by decide) fun _ _ _ _ _ _ us hl => match us, hl with | [_, _], _ => rfl
  have C_only_ends : Cal l.prog w K mg base _ "only_ends" p_only_ends _ := ⟨_, _, ok_only_ends F_only_ends B, PySem.W.mg_of X G a_only_ends, k_only_ends, b_only_ends, r_only_ends⟩
  have F_with_range := fun_mk (st := s_with_range) l_with_range c_with_range k_with_range
  have b_with_range := F_with_range.binds (ps := p_with_range) fun _ _ _ _ _ _ us hl => match us, hl with | [_, _, _], _ => rfl
  have r_with_range := Bx.Fun.kbR F_with_range (ps := p_with_range) (by decide) fun _ _ _ _ _ _ us hl => match us, hl with | [_, _, _], _ => rfl
  have C_with_range : Cal l.prog w K mg base _ "with_range" p_with_range _ := ⟨_, _, ok_with_range F_with_range B, PySem.W.mg_of X G a_with_range, k_with_range, b_with_range, r_with_range⟩
  have F_placed := fun_mk (st := s_placed) l_placed c_placed k_placed
  have b_placed := F_placed.binds (ps := p_placed) fun _ _ _ _ _ _ us hl => match us, hl with | [_, _, _], _ => rfl
  have r_placed := Bx.Fun.kbR F_placed (ps := p_placed) (by decide) fun _ _ _ _ _ _ us hl => match us, hl with | [_, _, _], _ => rfl
  have C_placed : Cal l.prog w K mg base _ "placed" p_placed _ := ⟨_, _, ok_placed F_placed B C_with_range, PySem.W.mg_of X G a_placed, k_placed, b_placed, r_placed⟩
  have F_halves := fun_mk (st := s_halves) l_halves c_halves k_halves
  have b_halves := F_halves.binds (ps := p_halves) fun _ _ _ _ _ _ us hl => match us, hl with | [_, _, _], _ => rfl
  have r_halves := Bx.Fun.kbR F_halves (ps := p_halves) (by decide) fun _ _ _ _ _ _ us hl => match us, hl with | [_, _, _], _ => rfl
  have C_halves : Cal l.prog w K mg base _ "halves" p_halves _ := ⟨_, _, ok_halves F_halves B C_is_above C_sharper_high C_sharper_low C_with_range, PySem.W.mg_of X G a_halves, k_halves, b_halves, r_halves⟩
  have F_is_name := fun_mk (st := s_is_name) l_is_name c_is_name k_is_name
  have b_is_name := F_is_name.binds (ps := p_is_name) fun _ _ _ _ _ _ us hl => match us, hl with | [_], _ => rfl
  have r_is_name := Bx.Fun.kbR F_is_name (ps := p_is_name) (by decide) fun _ _ _ _ _ _ us hl => match us, hl with | [_], _ => rfl
  have C_is_name : Cal l.prog w K mg base _ "is_name" p_is_name _ := ⟨_, _, ok_is_name F_is_name B q1 q2, PySem.W.mg_of X G a_is_name, k_is_name, b_is_name, r_is_name⟩
  have F_is_name_lot := fun_mk (st := s_is_name_lot) l_is_name_lot c_is_name_lot k_is_name_lot
  have b_is_name_lot := F_is_name_lot.binds (ps := p_is_name_lot) fun _ _ _ _ _ _ us hl => match us, hl with | [_], _ => rfl
  have r_is_name_lot := Bx.Fun.kbR F_is_name_lot (ps := p_is_name_lot) (by decide) fun _ _ _ _ _ _ us hl => match us, hl with | [_], _ => rfl
  have C_is_name_lot : Cal l.prog w K mg base _ "is_name_lot" p_is_name_lot _ := ⟨_, _, ok_is_name_lot F_is_name_lot B C_is_name, PySem.W.mg_of X G a_is_name_lot, k_is_name_lot, b_is_name_lot, r_is_name_lot⟩
  have F_check_system := fun_mk (st := s_check_system) l_check_system c_check_system k_check_system
  have b_check_system := F_check_system.binds (ps := p_check_system) fun _ _ _ _ _ _ us hl => match us, hl with | [_, _], _ => rfl
  have r_check_system := Bx.Fun.kbR F_check_system (ps := p_check_system) (by decide) fun _ _ _ _ _ _ us hl => match us, hl with | [_, _], _ => rfl
  have C_check_system : Cal l.prog w K mg base _ "check_system" p_check_system _ := ⟨_, _, ok_check_system F_check_system B C_is_name_lot q3, PySem.W.mg_of X G a_check_system, k_check_system, b_check_system, r_check_system⟩
  have F_Init := fun_mk (st := s_Init) l_Init c_Init k_Init
  have b_Init := F_Init.binds (ps := p_Init) fun _ _ _ _ _ _ us hl => match us, hl with | [_, _, _], _ => rfl
  have C_System : MakS l.prog w K mg base _ "System" C (spInit C) := ⟨_, _, _, ⟨mk, aI, iI, kc⟩, ok_Init F_Init T C_check_system, PySem.W.mg_of X G aC, b_Init⟩
  have F_free_box := fun_mk (st := s_free_box) l_free_box c_free_box k_free_box
  have b_free_box := F_free_box.binds (ps := p_free_box) fun _ _ _ _ _ _ us hl => match us, hl with | [_], _ => rfl
  have r_free_box := Bx.Fun.kbR F_free_box (ps := p_free_box) (by decide) fun _ _ _ _ _ _ us hl => match us, hl with | [_], _ => rfl
  have C_free_box : Cal l.prog w K mg base _ "free_box" p_free_box _ := ⟨_, _, ok_free_box F_free_box B T, PySem.W.mg_of X G a_free_box, k_free_box, b_free_box, r_free_box⟩
  have F__law_heap := fun_mk (st := s__law_heap) l__law_heap c__law_heap k__law_heap
  have b__law_heap := F__law_heap.binds (ps := p__law_heap) fun _ _ _ _ _ _ us hl => match us, hl with | [_], _ => rfl
  have r__law_heap := Bx.Fun.kbR F__law_heap (ps := p__law_heap) (by decide) fun _ _ _ _ _ _ us hl => match us, hl with | [_], _ => rfl
  have C__law_heap : Cal l.prog w K mg base _ "_law_heap" p__law_heap _ := ⟨_, _, ok__law_heap F__law_heap B, PySem.W.mg_of X G a__law_heap, k__law_heap, b__law_heap, r__law_heap⟩
  have F__law_draw := fun_mk (st := s__law_draw) l__law_draw c__law_draw k__law_draw
  have b__law_draw := F__law_draw.binds (ps := p__law_draw) fun _ _ _ _ _ _ us hl => match us, hl with | [_, _], _ => rfl
  have r__law_draw := Bx.Fun.kbR F__law_draw (ps := p__law_draw) (by decide) fun _ _ _ _ _ _ us hl => match us, hl with | [_, _], _ => rfl
  have C__law_draw : Cal l.prog w K mg base _ "_law_draw" p__law_draw _ := ⟨_, _, ok__law_draw F__law_draw B, PySem.W.mg_of X G a__law_draw, k__law_draw, b__law_draw, r__law_draw⟩
  have F__law_pick := fun_mk (st := s__law_pick) l__law_pick c__law_pick k__law_pick
  have b__law_pick := F__law_pick.binds (ps := p__law_pick) fun _ _ _ _ _ _ us hl => match us, hl with | [_, _], _ => rfl
  have r__law_pick := Bx.Fun.kbR F__law_pick (ps := p__law_pick) (by decide) fun _ _ _ _ _ _ us hl => match us, hl with | [_, _], _ => rfl
  have C__law_pick : Cal l.prog w K mg base _ "_law_pick" p__law_pick _ := ⟨_, _, ok__law_pick F__law_pick B C__law_draw, PySem.W.mg_of X G a__law_pick, k__law_pick, b__law_pick, r__law_pick⟩
  have F__law_lowest := fun_mk (st := s__law_lowest) l__law_lowest c__law_lowest k__law_lowest
  have b__law_lowest := F__law_lowest.binds (ps := p__law_lowest) fun _ _ _ _ _ _ us hl => match us, hl with | [_, _], _ => rfl
  have r__law_lowest := Bx.Fun.kbR F__law_lowest (ps := p__law_lowest) (by decide) fun _ _ _ _ _ _ us hl => match us, hl with | [_, _], _ => rfl
  have C__law_lowest : Cal l.prog w K mg base _ "_law_lowest" p__law_lowest _ := ⟨_, _, ok__law_lowest F__law_lowest B, PySem.W.mg_of X G a__law_lowest, k__law_lowest, b__law_lowest, r__law_lowest⟩
  have F__law_end := fun_mk (st := s__law_end) l__law_end c__law_end k__law_end
  have b__law_end := F__law_end.binds (ps := p__law_end) fun _ _ _ _ _ _ us hl => match us, hl with | [_, _], _ => rfl
  have r__law_end := Bx.Fun.kbR F__law_end (ps := p__law_end) (by decide) fun _ _ _ _ _ _ us hl => match us, hl with | [_, _], _ => rfl
  have C__law_end : Cal l.prog w K mg base _ "_law_end" p__law_end _ := ⟨_, _, ok__law_end F__law_end B C__law_draw C__law_pick, PySem.W.mg_of X G a__law_end, k__law_end, b__law_end, r__law_end⟩
  have F__law_range := fun_mk (st := s__law_range) l__law_range c__law_range k__law_range
  have b__law_range := F__law_range.binds (ps := p__law_range) fun _ _ _ _ _ _ us hl => match us, hl with | [_, _], _ => rfl
  have r__law_range := Bx.Fun.kbR F__law_range (ps := p__law_range) (by decide) fun _ _ _ _ _ _ us hl => match us, hl with | [_, _], _ => rfl
  have C__law_range : Cal l.prog w K mg base _ "_law_range" p__law_range _ := ⟨_, _, ok__law_range F__law_range B C__law_end C__law_pick, PySem.W.mg_of X G a__law_range, k__law_range, b__law_range, r__law_range⟩
  have F__law_has := fun_mk (st := s__law_has) l__law_has c__law_has k__law_has
  have b__law_has := F__law_has.binds (ps := p__law_has) fun _ _ _ _ _ _ us hl => match us, hl with | [_, _], _ => rfl
  have r__law_has := Bx.Fun.kbR F__law_has (ps := p__law_has) (by decide) fun _ _ _ _ _ _ us hl => match us, hl with | [_, _], _ => rfl
  have C__law_has : Cal l.prog w K mg base _ "_law_has" p__law_has _ := ⟨_, _, ok__law_has F__law_has B, PySem.W.mg_of X G a__law_has, k__law_has, b__law_has, r__law_has⟩
  have F__law_all_in := fun_mk (st := s__law_all_in) l__law_all_in c__law_all_in k__law_all_in
  have b__law_all_in := F__law_all_in.binds (ps := p__law_all_in) fun _ _ _ _ _ _ us hl => match us, hl with | [_, _], _ => rfl
  have r__law_all_in := Bx.Fun.kbR F__law_all_in (ps := p__law_all_in) (by decide) fun _ _ _ _ _ _ us hl => match us, hl with | [_, _], _ => rfl
  have C__law_all_in : Cal l.prog w K mg base _ "_law_all_in" p__law_all_in _ := ⟨_, _, ok__law_all_in F__law_all_in B C__law_has, PySem.W.mg_of X G a__law_all_in, k__law_all_in, b__law_all_in, r__law_all_in⟩
  have F__law_shown := fun_mk (st := s__law_shown) l__law_shown c__law_shown k__law_shown
  have b__law_shown := F__law_shown.binds (ps := p__law_shown) fun _ _ _ _ _ _ us hl => match us, hl with | [_, _], _ => rfl
  have r__law_shown := Bx.Fun.kbR F__law_shown (ps := p__law_shown) (by decide) fun _ _ _ _ _ _ us hl => match us, hl with | [_, _], _ => rfl
  have C__law_shown : Cal l.prog w K mg base _ "_law_shown" p__law_shown _ := ⟨_, _, ok__law_shown F__law_shown B C__law_lowest, PySem.W.mg_of X G a__law_shown, k__law_shown, b__law_shown, r__law_shown⟩
  have F__law_fractions := fun_mk (st := s__law_fractions) l__law_fractions c__law_fractions k__law_fractions
  have b__law_fractions := F__law_fractions.binds (ps := p__law_fractions) fun _ _ _ _ _ _ us hl => match us, hl with | [_, _], _ => rfl
  have r__law_fractions := Bx.Fun.kbR F__law_fractions (ps := p__law_fractions) (by decide) fun _ _ _ _ _ _ us hl => match us, hl with | [_, _], _ => rfl
  have C__law_fractions : Cal l.prog w K mg base _ "_law_fractions" p__law_fractions _ := ⟨_, _, ok__law_fractions F__law_fractions B C__law_lowest, PySem.W.mg_of X G a__law_fractions, k__law_fractions, b__law_fractions, r__law_fractions⟩
  have F__law_tests := fun_mk (st := s__law_tests) l__law_tests c__law_tests k__law_tests
  have b__law_tests := F__law_tests.binds (ps := p__law_tests) fun _ _ _ _ _ _ us hl => match us, hl with | [_], _ => rfl
  have r__law_tests := Bx.Fun.kbR F__law_tests (ps := p__law_tests) (by decide) fun _ _ _ _ _ _ us hl => match us, hl with | [_], _ => rfl
  have C__law_tests : Cal l.prog w K mg base _ "_law_tests" p__law_tests _ := ⟨_, _, ok__law_tests F__law_tests B, PySem.W.mg_of X G a__law_tests, k__law_tests, b__law_tests, r__law_tests⟩
  have F__law_is_end := fun_mk (st := s__law_is_end) l__law_is_end c__law_is_end k__law_is_end
  have b__law_is_end := F__law_is_end.binds (ps := p__law_is_end) fun _ _ _ _ _ _ us hl => match us, hl with | [_, _], _ => rfl
  have r__law_is_end := Bx.Fun.kbR F__law_is_end (ps := p__law_is_end) (by decide) fun _ _ _ _ _ _ us hl => match us, hl with | [_, _], _ => rfl
  have C__law_is_end : Cal l.prog w K mg base _ "_law_is_end" p__law_is_end _ := ⟨_, _, ok__law_is_end F__law_is_end B, PySem.W.mg_of X G a__law_is_end, k__law_is_end, b__law_is_end, r__law_is_end⟩
  have F__law_told_has := fun_mk (st := s__law_told_has) l__law_told_has c__law_told_has k__law_told_has
  have b__law_told_has := F__law_told_has.binds (ps := p__law_told_has) fun _ _ _ _ _ _ us hl => match us, hl with | [_, _, _], _ => rfl
  have r__law_told_has := Bx.Fun.kbR F__law_told_has (ps := p__law_told_has) (by decide) fun _ _ _ _ _ _ us hl => match us, hl with | [_, _, _], _ => rfl
  have C__law_told_has : Cal l.prog w K mg base _ "_law_told_has" p__law_told_has _ := ⟨_, _, ok__law_told_has F__law_told_has B, PySem.W.mg_of X G a__law_told_has, k__law_told_has, b__law_told_has, r__law_told_has⟩
  have F__law_box_right := fun_mk (st := s__law_box_right) l__law_box_right c__law_box_right k__law_box_right
  have b__law_box_right := F__law_box_right.binds (ps := p__law_box_right) fun _ _ _ _ _ _ us hl => match us, hl with | [_, _, _, _], _ => rfl
  have r__law_box_right := Bx.Fun.kbR F__law_box_right (ps := p__law_box_right) (by decide) fun _ _ _ _ _ _ us hl => match us, hl with | [_, _, _, _], _ => rfl
  have C__law_box_right : Cal l.prog w K mg base _ "_law_box_right" p__law_box_right _ := ⟨_, _, ok__law_box_right F__law_box_right B C__law_is_end C__law_told_has, PySem.W.mg_of X G a__law_box_right, k__law_box_right, b__law_box_right, r__law_box_right⟩
  have F__law_two_right := fun_mk (st := s__law_two_right) l__law_two_right c__law_two_right k__law_two_right
  have b__law_two_right := F__law_two_right.binds (ps := p__law_two_right) fun _ _ _ _ _ _ us hl => match us, hl with | [_, _, _, _, _, _], _ => rfl
  have r__law_two_right := Bx.Fun.kbR F__law_two_right (ps := p__law_two_right) (by decide) fun _ _ _ _ _ _ us hl => match us, hl with | [_, _, _, _, _, _], _ => rfl
  have C__law_two_right : Cal l.prog w K mg base _ "_law_two_right" p__law_two_right _ := ⟨_, _, ok__law_two_right F__law_two_right B C__law_all_in C__law_box_right C_common_box C_joined_box C_within, PySem.W.mg_of X G a__law_two_right, k__law_two_right, b__law_two_right, r__law_two_right⟩
  have F__law_fit := fun_mk (st := s__law_fit) l__law_fit c__law_fit k__law_fit
  have b__law_fit := F__law_fit.binds (ps := p__law_fit) fun _ _ _ _ _ _ us hl => match us, hl with | [_, _], _ => rfl
  have r__law_fit := Bx.Fun.kbR F__law_fit (ps := p__law_fit) (by decide) fun _ _ _ _ _ _ us hl => match us, hl with | [_, _], _ => rfl
  have C__law_fit : Cal l.prog w K mg base _ "_law_fit" p__law_fit _ := ⟨_, _, ok__law_fit F__law_fit B C__law_lowest, PySem.W.mg_of X G a__law_fit, k__law_fit, b__law_fit, r__law_fit⟩
  have F__law_cut_right := fun_mk (st := s__law_cut_right) l__law_cut_right c__law_cut_right k__law_cut_right
  have b__law_cut_right := F__law_cut_right.binds (ps := p__law_cut_right) fun _ _ _ _ _ _ us hl => match us, hl with | [_, _, _, _, _, _], _ => rfl
  have r__law_cut_right := Bx.Fun.kbR F__law_cut_right (ps := p__law_cut_right) (by decide) fun _ _ _ _ _ _ us hl => match us, hl with | [_, _, _, _, _, _], _ => rfl
  have C__law_cut_right : Cal l.prog w K mg base _ "_law_cut_right" p__law_cut_right _ := ⟨_, _, ok__law_cut_right F__law_cut_right B C__law_all_in C__law_box_right C__law_lowest C_halves C_placed, PySem.W.mg_of X G a__law_cut_right, k__law_cut_right, b__law_cut_right, r__law_cut_right⟩
  have F__law_ends_right := fun_mk (st := s__law_ends_right) l__law_ends_right c__law_ends_right k__law_ends_right
  have b__law_ends_right := F__law_ends_right.binds (ps := p__law_ends_right) fun _ _ _ _ _ _ us hl => match us, hl with | [_, _, _, _, _], _ => rfl
  have C__law_ends_right : CalG l.prog w K mg base _ "_law_ends_right" p__law_ends_right _ := ⟨_, _, ok__law_ends_right F__law_ends_right B C__law_draw C_box_ends C_only_ends, PySem.W.mg_of X G a__law_ends_right, k__law_ends_right, b__law_ends_right⟩
  have F__law_points_right := fun_mk (st := s__law_points_right) l__law_points_right c__law_points_right k__law_points_right
  have b__law_points_right := F__law_points_right.binds (ps := p__law_points_right) fun _ _ _ _ _ _ us hl => match us, hl with | [_, _, _, _, _], _ => rfl
  have C__law_points_right : CalG l.prog w K mg base _ "_law_points_right" p__law_points_right _ := ⟨_, _, ok__law_points_right F__law_points_right B C__law_draw C__law_pick C__law_fit C__law_all_in C__law_has C__law_lowest C_in_box C_point_box C_within, PySem.W.mg_of X G a__law_points_right, k__law_points_right, b__law_points_right⟩
  exact ok_law good (fun_mk (st := s_law) l_law c_law k_law) B C__law_heap C__law_draw C__law_pick C__law_end C__law_range C__law_shown C__law_tests C__law_fractions C__law_two_right C__law_ends_right C__law_points_right C__law_cut_right C__law_box_right C_free_box C_System C_common_box C_joined_box C_halves
end
end Bx
open PySem PySem.W PyProof.Rows in
set_option maxRecDepth 100000 in
set_option maxHeartbeats 0 in
theorem PySem.Challenge.cw_rowalone_k07_whole_boxes_as_their_points_holds : PySem.Challenge.rw_rowalone_k07_whole_boxes_as_their_points.Holds := by
  w_on; o_law; k_head; (case hw => w_witness2)
  k_fill
  refine Bx.walkG (l := PySem.Challenge.rw_rowalone_k07_whole_boxes_as_their_points) (n := 63) (k := 6) (x := "_law_script") (sp := fun K => Bx.spLaw K) rfl (by decide) rfl ⟨rfl, by decide, by decide⟩ (fun w h Y => PySem.W.kIn_of Y) ?F (fun _ _ a ns hl _ hS => ⟨a, ns, rfl, hS, fun _ => rfl⟩)
  case F =>
    intro w mg fa h KX G hmg
    refine' Bx.all_mk Bx.good_all KX G hmg ?a_less ?l_less ?c_less ?k_less ?a_is_above ?l_is_above ?c_is_above ?k_is_above ?a_is_between ?l_is_between ?c_is_between ?k_is_between ?a_sharper_low ?l_sharper_low ?c_sharper_low ?k_sharper_low ?a_sharper_high ?l_sharper_high ?c_sharper_high ?k_sharper_high ?a_wider_low ?l_wider_low ?c_wider_low ?k_wider_low ?a_wider_high ?l_wider_high ?c_wider_high ?k_wider_high ?a_point_box ?l_point_box ?c_point_box ?k_point_box ?a_in_box ?l_in_box ?c_in_box ?k_in_box ?a_within ?l_within ?c_within ?k_within ?a_common_box ?l_common_box ?c_common_box ?k_common_box ?a_joined_box ?l_joined_box ?c_joined_box ?k_joined_box ?a_box_ends ?l_box_ends ?c_box_ends ?k_box_ends ?a_only_ends ?l_only_ends ?c_only_ends ?k_only_ends ?a_with_range ?l_with_range ?c_with_range ?k_with_range ?a_placed ?l_placed ?c_placed ?k_placed ?a_halves ?l_halves ?c_halves ?k_halves ?a_is_name ?l_is_name ?c_is_name ?k_is_name ?a_is_name_lot ?l_is_name_lot ?c_is_name_lot ?k_is_name_lot ?a_check_system ?l_check_system ?c_check_system ?k_check_system ?a_free_box ?l_free_box ?c_free_box ?k_free_box ?a__law_heap ?l__law_heap ?c__law_heap ?k__law_heap ?a__law_draw ?l__law_draw ?c__law_draw ?k__law_draw ?a__law_pick ?l__law_pick ?c__law_pick ?k__law_pick ?a__law_lowest ?l__law_lowest ?c__law_lowest ?k__law_lowest ?a__law_end ?l__law_end ?c__law_end ?k__law_end ?a__law_range ?l__law_range ?c__law_range ?k__law_range ?a__law_has ?l__law_has ?c__law_has ?k__law_has ?a__law_all_in ?l__law_all_in ?c__law_all_in ?k__law_all_in ?a__law_shown ?l__law_shown ?c__law_shown ?k__law_shown ?a__law_fractions ?l__law_fractions ?c__law_fractions ?k__law_fractions ?a__law_tests ?l__law_tests ?c__law_tests ?k__law_tests ?a__law_is_end ?l__law_is_end ?c__law_is_end ?k__law_is_end ?a__law_told_has ?l__law_told_has ?c__law_told_has ?k__law_told_has ?a__law_box_right ?l__law_box_right ?c__law_box_right ?k__law_box_right ?a__law_two_right ?l__law_two_right ?c__law_two_right ?k__law_two_right ?a__law_fit ?l__law_fit ?c__law_fit ?k__law_fit ?a__law_cut_right ?l__law_cut_right ?c__law_cut_right ?k__law_cut_right ?a__law_ends_right ?l__law_ends_right ?c__law_ends_right ?k__law_ends_right ?a__law_points_right ?l__law_points_right ?c__law_points_right ?k__law_points_right ?a_law ?l_law ?c_law ?k_law ?aC ?aI ?iI ?l_Init ?c_Init ?k_Init ?pg ?hd ?po ?sa ?mk ?kc ?nN ?nR ?v1 ?v2 ?v3 ?z_abs ?z_int ?z_len ?z_min ?z_max ?z_any ?z_all ?z_tuple ?z_range ?z_enumerate ?z_zip ?z_isinstance ?z_repr ?z_sorted ?z_set ?z_list ?z_str ?z_bool
    (case a_less => k_is)
    (case l_less => k_is)
    (case c_less => k_is)
    (case k_less => k_is)
    (case a_is_above => k_is)
    (case l_is_above => k_is)
    (case c_is_above => k_is)
    (case k_is_above => k_is)
    (case a_is_between => k_is)
    (case l_is_between => k_is)
    (case c_is_between => k_is)
    (case k_is_between => k_is)
    (case a_sharper_low => k_is)
    (case l_sharper_low => k_is)
    (case c_sharper_low => k_is)
    (case k_sharper_low => k_is)
    (case a_sharper_high => k_is)
    (case l_sharper_high => k_is)
    (case c_sharper_high => k_is)
    (case k_sharper_high => k_is)
    (case a_wider_low => k_is)
    (case l_wider_low => k_is)
    (case c_wider_low => k_is)
    (case k_wider_low => k_is)
    (case a_wider_high => k_is)
    (case l_wider_high => k_is)
    (case c_wider_high => k_is)
    (case k_wider_high => k_is)
    (case a_point_box => k_is)
    (case l_point_box => k_is)
    (case c_point_box => k_is)
    (case k_point_box => k_is)
    (case a_in_box => k_is)
    (case l_in_box => k_is)
    (case c_in_box => k_is)
    (case k_in_box => k_is)
    (case a_within => k_is)
    (case l_within => k_is)
    (case c_within => k_is)
    (case k_within => k_is)
    (case a_common_box => k_is)
    (case l_common_box => k_is)
    (case c_common_box => k_is)
    (case k_common_box => k_is)
    (case a_joined_box => k_is)
    (case l_joined_box => k_is)
    (case c_joined_box => k_is)
    (case k_joined_box => k_is)
    (case a_box_ends => k_is)
    (case l_box_ends => k_is)
    (case c_box_ends => k_is)
    (case k_box_ends => k_is)
    (case a_only_ends => k_is)
    (case l_only_ends => k_is)
    (case c_only_ends => k_is)
    (case k_only_ends => k_is)
    (case a_with_range => k_is)
    (case l_with_range => k_is)
    (case c_with_range => k_is)
    (case k_with_range => k_is)
    (case a_placed => k_is)
    (case l_placed => k_is)
    (case c_placed => k_is)
    (case k_placed => k_is)
    (case a_halves => k_is)
    (case l_halves => k_is)
    (case c_halves => k_is)
    (case k_halves => k_is)
    (case a_is_name => k_is)
    (case l_is_name => k_is)
    (case c_is_name => k_is)
    (case k_is_name => k_is)
    (case a_is_name_lot => k_is)
    (case l_is_name_lot => k_is)
    (case c_is_name_lot => k_is)
    (case k_is_name_lot => k_is)
    (case a_check_system => k_is)
    (case l_check_system => k_is)
    (case c_check_system => k_is)
    (case k_check_system => k_is)
    (case a_free_box => k_is)
    (case l_free_box => k_is)
    (case c_free_box => k_is)
    (case k_free_box => k_is)
    (case a__law_heap => k_is)
    (case l__law_heap => k_is)
    (case c__law_heap => k_is)
    (case k__law_heap => k_is)
    (case a__law_draw => k_is)
    (case l__law_draw => k_is)
    (case c__law_draw => k_is)
    (case k__law_draw => k_is)
    (case a__law_pick => k_is)
    (case l__law_pick => k_is)
    (case c__law_pick => k_is)
    (case k__law_pick => k_is)
    (case a__law_lowest => k_is)
    (case l__law_lowest => k_is)
    (case c__law_lowest => k_is)
    (case k__law_lowest => k_is)
    (case a__law_end => k_is)
    (case l__law_end => k_is)
    (case c__law_end => k_is)
    (case k__law_end => k_is)
    (case a__law_range => k_is)
    (case l__law_range => k_is)
    (case c__law_range => k_is)
    (case k__law_range => k_is)
    (case a__law_has => k_is)
    (case l__law_has => k_is)
    (case c__law_has => k_is)
    (case k__law_has => k_is)
    (case a__law_all_in => k_is)
    (case l__law_all_in => k_is)
    (case c__law_all_in => k_is)
    (case k__law_all_in => k_is)
    (case a__law_shown => k_is)
    (case l__law_shown => k_is)
    (case c__law_shown => k_is)
    (case k__law_shown => k_is)
    (case a__law_fractions => k_is)
    (case l__law_fractions => k_is)
    (case c__law_fractions => k_is)
    (case k__law_fractions => k_is)
    (case a__law_tests => k_is)
    (case l__law_tests => k_is)
    (case c__law_tests => k_is)
    (case k__law_tests => k_is)
    (case a__law_is_end => k_is)
    (case l__law_is_end => k_is)
    (case c__law_is_end => k_is)
    (case k__law_is_end => k_is)
    (case a__law_told_has => k_is)
    (case l__law_told_has => k_is)
    (case c__law_told_has => k_is)
    (case k__law_told_has => k_is)
    (case a__law_box_right => k_is)
    (case l__law_box_right => k_is)
    (case c__law_box_right => k_is)
    (case k__law_box_right => k_is)
    (case a__law_two_right => k_is)
    (case l__law_two_right => k_is)
    (case c__law_two_right => k_is)
    (case k__law_two_right => k_is)
    (case a__law_fit => k_is)
    (case l__law_fit => k_is)
    (case c__law_fit => k_is)
    (case k__law_fit => k_is)
    (case a__law_cut_right => k_is)
    (case l__law_cut_right => k_is)
    (case c__law_cut_right => k_is)
    (case k__law_cut_right => k_is)
    (case a__law_ends_right => k_is)
    (case l__law_ends_right => k_is)
    (case c__law_ends_right => k_is)
    (case k__law_ends_right => k_is)
    (case a__law_points_right => k_is)
    (case l__law_points_right => k_is)
    (case c__law_points_right => k_is)
    (case k__law_points_right => k_is)
    (case a_law => k_is)
    (case l_law => k_is)
    (case c_law => k_is)
    (case k_law => k_is)
    (case aC => k_is)
    (case aI => k_is)
    (case iI => k_is)
    (case l_Init => k_is)
    (case c_Init => k_is)
    (case k_Init => k_is)
    (case pg => k_is)
    (case hd => k_is)
    (case po => k_is)
    (case sa => k_is)
    (case mk => k_is)
    (case kc => k_is)
    (case nN => k_is)
    (case nR => k_is)
    (case v1 => k_is)
    (case v2 => k_is)
    (case v3 => k_is)
    (case z_abs => k_is)
    (case z_int => k_is)
    (case z_len => k_is)
    (case z_min => k_is)
    (case z_max => k_is)
    (case z_any => k_is)
    (case z_all => k_is)
    (case z_tuple => k_is)
    (case z_range => k_is)
    (case z_enumerate => k_is)
    (case z_zip => k_is)
    (case z_isinstance => k_is)
    (case z_repr => k_is)
    (case z_sorted => k_is)
    (case z_set => k_is)
    (case z_list => k_is)
    (case z_str => k_is)
    (case z_bool => k_is)
