import PyProof.Rows.All
import Wide.All
import OpenK.AllK
import Wide.FinOn
import HandS.ForMost
import HandS.Exc
import HandS.Evl
import HandS.HotCalls
import HandS.Wide
import HandS.Style
import HandS.WordsExc
import HandS.TupAny
import HandS.TupMul
import HandS.Deep
import HandS.Zip
import HandS.More
import HandS.IsInst
import HandS.ExcIs
import HandS.SetFor
import HandS.FltList
import HandS.Text
import HandS.ReCall
import PySem.Challenge.RW_tagasks_k02_heard
set_option Elab.async false
set_option linter.all false
set_option maxRecDepth 100000
set_option maxHeartbeats 2000000
set_option exponentiation.threshold 100000
namespace Dl
open PySem PySem.Spec PyProof.Rows L2

/-! ### data in a heap -/
/-- the script, a list of ints that is locked -/
def scrD (ns : List Int) : PyData := .dict (ns.map fun n => (.int n, .none))
mutual
inductive Dq (K : PySem.W.Frag) (B : Hp) : V → PyData → Prop
  | non : Dq K B .non .none
  | bl (b : Bool) : Dq K B (.bl b) (.bool b)
  | int (i : Int) : Dq K B (.int i) (.int i)
  | str (x : Str) : Dq K B (.str x) (.str x)
  | lst {a : Addr} {vs : List V} {ds : List PyData} (h : B a = some (.lst vs)) (t : DqAll K B vs ds) : Dq K B (.ref a) (.list ds)
  | tup {a : Addr} {vs : List V} {ds : List PyData} (h : SqT K B a vs) (t : DqAll K B vs ds) : Dq K B (.ref a) (.tuple ds)
  | scr {a : Addr} {ns : List Int} {kvs : List (PyData × PyData)} (e : kvs = ns.map fun n => (.int n, .none)) (h : SqL K B a (ns.map V.int)) : Dq K B (.ref a) (.dict kvs)
inductive DqAll (K : PySem.W.Frag) (B : Hp) : List V → List PyData → Prop
  | nil : DqAll K B [] []
  | cons {v : V} {vs : List V} {d : PyData} {ds : List PyData} (h : Dq K B v d) (t : DqAll K B vs ds) : DqAll K B (v :: vs) (d :: ds)
end
mutual
theorem dq_dp {K : PySem.W.Frag} {B : Hp} : ∀ {v : V} {d : PyData}, Dq K B v d → d.canLay0 = true → L2.Dp K B v d
  | _, _, .non, _ => .non
  | _, _, .bl b, _ => .bl b
  | _, _, .int i, _ => .int i
  | _, _, .str x, _ => .str x
  | _, _, .lst h t, c => .lst (.inl (.inl h)) (dqa_dp t c)
  | _, _, .tup h t, c => .tup h (dqa_dp t c)
  | _, _, .scr _ _, c => by cases c
theorem dqa_dp {K : PySem.W.Frag} {B : Hp} : ∀ {vs : List V} {ds : List PyData}, DqAll K B vs ds → PyData.canLayAll0 ds = true → L2.DpAll K B vs ds
  | _, _, .nil, _ => .nil
  | _, _, .cons h t, c => by
    have c' := Bool.and_eq_true_iff.mp c
    exact .cons (dq_dp h c'.1) (dqa_dp t c'.2)
end
mutual
theorem dp_mono {K : PySem.W.Frag} {B B' : Hp} (e : Same B B') : ∀ {v : V} {d : PyData}, Dq K B v d → Dq K B' v d
  | _, _, .non => .non
  | _, _, .bl b => .bl b
  | _, _, .int i => .int i
  | _, _, .str x => .str x
  | _, _, .lst h a => .lst (e _ _ h) (dpa_mono e a)
  | _, _, .tup h a => .tup (Evl.ex_t e h) (dpa_mono e a)
  | _, _, .scr q h => .scr q (e.seq h)
theorem dpa_mono {K : PySem.W.Frag} {B B' : Hp} (e : Same B B') : ∀ {vs : List V} {ds : List PyData}, DqAll K B vs ds → DqAll K B' vs ds
  | _, _, .nil => .nil
  | _, _, .cons h t => .cons (dp_mono e h) (dpa_mono e t)
end
theorem dpa_len {K : PySem.W.Frag} {B : Hp} : ∀ {vs : List V} {ds : List PyData}, DqAll K B vs ds → vs.length = ds.length
  | _, _, .nil => rfl
  | _, _, .cons _ t => by rw [List.length_cons, List.length_cons, dpa_len t]
theorem dpa_get {K : PySem.W.Frag} {B : Hp} : ∀ {vs : List V} {ds : List PyData}, DqAll K B vs ds → ∀ (i : Nat) (v : V), vs[i]? = some v → ∃ d, ds[i]? = some d ∧ Dq K B v d
  | _, _, .nil, i, v, h => by simp at h
  | _, _, .cons h t, 0, v, e => by
    simp at e
    subst e
    exact ⟨_, rfl, h⟩
  | _, _, .cons h t, i + 1, v, e => by
    obtain ⟨d, a, b⟩ := dpa_get t i v (by simpa using e)
    exact ⟨d, by simpa using a, b⟩
theorem dpa_getd {K : PySem.W.Frag} {B : Hp} : ∀ {vs : List V} {ds : List PyData}, DqAll K B vs ds → ∀ (i : Nat) (d : PyData), ds[i]? = some d → ∃ v, vs[i]? = some v ∧ Dq K B v d
  | _, _, .nil, i, v, h => by simp at h
  | _, _, .cons h t, 0, v, e => by
    simp at e
    subst e
    exact ⟨_, rfl, h⟩
  | _, _, .cons h t, i + 1, v, e => by
    obtain ⟨d, a, b⟩ := dpa_getd t i v (by simpa using e)
    exact ⟨d, by simpa using a, b⟩
theorem dpa_app {K : PySem.W.Frag} {B : Hp} : ∀ {vs ws : List V} {ds es : List PyData}, DqAll K B vs ds → DqAll K B ws es → DqAll K B (vs ++ ws) (ds ++ es)
  | _, _, _, _, .nil, s => s
  | _, _, _, _, .cons h t, s => .cons h (dpa_app t s)
theorem dpa_take {K : PySem.W.Frag} {B : Hp} : ∀ {vs : List V} {ds : List PyData} (n : Nat), DqAll K B vs ds → DqAll K B (vs.take n) (ds.take n)
  | _, _, 0, _ => .nil
  | _, _, _ + 1, .nil => .nil
  | _, _, n + 1, .cons h t => .cons h (dpa_take n t)
theorem dpa_drop {K : PySem.W.Frag} {B : Hp} : ∀ {vs : List V} {ds : List PyData} (n : Nat), DqAll K B vs ds → DqAll K B (vs.drop n) (ds.drop n)
  | _, _, 0, h => h
  | _, _, _ + 1, .nil => .nil
  | _, _, n + 1, .cons h t => dpa_drop n t
theorem dpa_set {K : PySem.W.Frag} {B : Hp} {v : V} {d : PyData} (h : Dq K B v d) : ∀ {vs : List V} {ds : List PyData} (n : Nat), DqAll K B vs ds → DqAll K B (vs.set n v) (ds.set n d)
  | _, _, _, .nil => .nil
  | _, _, 0, .cons _ t => .cons h t
  | _, _, n + 1, .cons q t => .cons q (dpa_set h n t)
theorem dpa_rev {K : PySem.W.Frag} {B : Hp} : ∀ {vs : List V} {ds : List PyData}, DqAll K B vs ds → DqAll K B vs.reverse ds.reverse
  | _, _, .nil => .nil
  | _, _, .cons h t => by
    rw [List.reverse_cons, List.reverse_cons]
    exact dpa_app (dpa_rev t) (.cons h .nil)

/-! ### slots -/
inductive Fd where
  | v (d : PyData)
  | ol (ds : List PyData)
inductive Sl where
  | no
  | v (d : PyData)
  | r (x : V)
  | ol (ds : List PyData)
  | od (kvs : List (Key × PyData))
  | ot (kvs : List (List Key × PyData))
  | ob (C : Addr) (fs : List (Str × Fd))
abbrev Own := Addr → Option (Nat × Option Str)
def KDp {κ : Type} (K : PySem.W.Frag) (B : Hp) : List (κ × V) → List (κ × PyData) → Prop := Paired fun p q => p.1 = q.1 ∧ Dq K B p.2 q.2
def FdH (K : PySem.W.Frag) (B H : Hp) (O : Own) (i : Nat) (f : Str) (y : V) : Fd → Prop
  | .v d => Dq K B y d
  | .ol ds => ∃ l xs, y = .ref l ∧ O l = some (i, some f) ∧ H l = some (.lst xs) ∧ DqAll K B xs ds
def Hold (K : PySem.W.Frag) (B H : Hp) (O : Own) (i : Nat) (x : V) : Sl → Prop
  | .no => True
  | .v d => Dq K B x d
  | .r y => x = y
  | .ol ds => ∃ l xs, x = .ref l ∧ O l = some (i, none) ∧ H l = some (.lst xs) ∧ DqAll K B xs ds
  | .od kvs => ∃ l ys, x = .ref l ∧ O l = some (i, none) ∧ H l = some (.dK ys) ∧ KDp K B ys kvs
  | .ot kvs => ∃ l ys, x = .ref l ∧ O l = some (i, none) ∧ H l = some (.dT ys) ∧ KDp K B ys kvs
  | .ob C fs => ∃ a dx gs, x = .ref a ∧ O a = some (i, none) ∧ O dx = some (i, some ("__dict__" : Str)) ∧ H a = some (.ins C dx gs) ∧ H dx = some (.own a) ∧ gs.length < 1000 ∧
      Paired (fun (p : Str × V) (q : Str × Fd) => p.1 = q.1 ∧ FdH K B H O i p.1 p.2 q.2) gs fs
theorem kdp_mono {κ : Type} {K : PySem.W.Frag} {B B' : Hp} (e : Same B B') {ys : List (κ × V)} {kvs : List (κ × PyData)} (h : KDp K B ys kvs) : KDp K B' ys kvs :=
  Paired.mapP h fun _ _ z => ⟨z.1, dp_mono e z.2⟩
theorem fdh_mono {K : PySem.W.Frag} {B B' H H' : Hp} {O O' : Own} {i : Nat} {f : Str} {y : V} {d : Fd} (e : Same B B') (hO : ∀ a, O a = some (i, some f) → O' a = some (i, some f) ∧ H' a = H a) (h : FdH K B H O i f y d) : FdH K B' H' O' i f y d := by
  cases d with
  | v d => exact dp_mono e h
  | ol ds =>
    obtain ⟨l, xs, e1, e2, e3, e4⟩ := h
    exact ⟨l, xs, e1, (hO l e2).1, by rw [(hO l e2).2]; exact e3, dpa_mono e e4⟩
theorem hold_mono {K : PySem.W.Frag} {B B' H H' : Hp} {O O' : Own} {i : Nat} {x : V} {s : Sl} (e : Same B B') (hO : ∀ a t, O a = some (i, t) → O' a = some (i, t) ∧ H' a = H a) (h : Hold K B H O i x s) : Hold K B' H' O' i x s := by
  cases s with
  | no => trivial
  | v d => exact dp_mono e h
  | r y => exact h
  | ol ds =>
    obtain ⟨l, xs, e1, e2, e3, e4⟩ := h
    exact ⟨l, xs, e1, (hO l _ e2).1, by rw [(hO l _ e2).2]; exact e3, dpa_mono e e4⟩
  | od ds =>
    obtain ⟨l, xs, e1, e2, e3, e4⟩ := h
    exact ⟨l, xs, e1, (hO l _ e2).1, by rw [(hO l _ e2).2]; exact e3, kdp_mono e e4⟩
  | ot ds =>
    obtain ⟨l, xs, e1, e2, e3, e4⟩ := h
    exact ⟨l, xs, e1, (hO l _ e2).1, by rw [(hO l _ e2).2]; exact e3, kdp_mono e e4⟩
  | ob C fs =>
    obtain ⟨a, dx, gs, e1, e2, e3, e4, e5, e6, e7⟩ := h
    refine ⟨a, dx, gs, e1, (hO a _ e2).1, (hO dx _ e3).1, by rw [(hO a _ e2).2]; exact e4, by rw [(hO dx _ e3).2]; exact e5, e6, ?_⟩
    exact Paired.mapP e7 fun p q z => ⟨z.1, fdh_mono e (fun b hb => hO b _ hb) z.2⟩

/-- B: what is shared and stays; F: what else stays; the slots own the rest -/
structure EnvB (K : PySem.W.Frag) (B F H : Hp) (σ : L2.St) (ρ : List Sl) : Prop where
  ln : σ.length = ρ.length
  bh : Same B H
  fh : Same F H
  dj : ∀ a o, F a = some o → B a = none
  own : ∃ O : Own, (∀ a t, O a = some t → B a = none ∧ F a = none ∧ H a ≠ none) ∧ ∀ i s, ρ[i]? = some s → s = .no ∨ ∃ x, σ[i]? = some (some x) ∧ Hold K B H O i x s

theorem same_upd {H : Hp} {p : Addr} {o : HO} (h : H p = none) : Same H (upd H p o) := fun b x e => by
  rw [upd_ne (ne_of_none e h)]
  exact e
theorem same_upd2 {B H : Hp} {p : Addr} {o : HO} (h : Same B H) : Same (upd B p o) (upd H p o) := fun b x e => by
  by_cases hb : b = p
  · subst hb
    rw [upd_same] at e ⊢
    exact e
  · rw [upd_ne hb] at e ⊢
    exact h b x e
/-- a new object that is shared -/
theorem EnvB.new {K : PySem.W.Frag} {B F H : Hp} {σ : L2.St} {ρ : List Sl} (I : EnvB K B F H σ ρ) {p : Addr} {o : HO} (h : H p = none) : Same B (upd B p o) ∧ EnvB K (upd B p o) F (upd H p o) σ ρ := by
  have hb : B p = none := I.bh.free h
  refine ⟨same_upd hb, I.ln, same_upd2 I.bh, I.fh.trans (same_upd h), fun a u e => ?_, ?_⟩
  · have hn : a ≠ p := ne_of_none (I.fh a u e) h
    rw [upd_ne hn]
    exact I.dj a u e
  · obtain ⟨O, h1, h2⟩ := I.own
    have hp : ∀ a t, O a = some t → a ≠ p := fun a t e z => (h1 a t e).2.2 (by rw [z]; exact h)
    refine ⟨O, fun a t e => ?_, fun i s hs => ?_⟩
    · obtain ⟨q1, q2, q3⟩ := h1 a t e
      rw [upd_ne (hp a t e), upd_ne (hp a t e)]
      exact ⟨q1, q2, q3⟩
    · rcases h2 i s hs with z | ⟨x, hx, hh⟩
      · exact .inl z
      · exact .inr ⟨x, hx, hold_mono (same_upd hb) (fun a t e => ⟨e, upd_ne (hp a _ e)⟩) hh⟩
/-- a new object that is not shared: it goes to the frame -/
theorem EnvB.lay {K : PySem.W.Frag} {B F H : Hp} {σ : L2.St} {ρ : List Sl} (I : EnvB K B F H σ ρ) {p : Addr} {o : HO} (h : H p = none) : EnvB K B (upd F p o) (upd H p o) σ ρ := by
  have hb : B p = none := I.bh.free h
  refine ⟨I.ln, I.bh.trans (same_upd h), same_upd2 I.fh, fun a u e => ?_, ?_⟩
  · by_cases ha : a = p
    · rw [ha]; exact hb
    · rw [upd_ne ha] at e
      exact I.dj a u e
  · obtain ⟨O, h1, h2⟩ := I.own
    have hp : ∀ a t, O a = some t → a ≠ p := fun a t e z => (h1 a t e).2.2 (by rw [z]; exact h)
    refine ⟨O, fun a t e => ?_, fun i s hs => ?_⟩
    · obtain ⟨q1, q2, q3⟩ := h1 a t e
      rw [upd_ne (hp a t e), upd_ne (hp a t e)]
      exact ⟨q1, q2, q3⟩
    · rcases h2 i s hs with z | ⟨x, hx, hh⟩
      · exact .inl z
      · exact .inr ⟨x, hx, hold_mono (Same.refl B) (fun a t e => ⟨e, upd_ne (hp a _ e)⟩) hh⟩
/-- what the frame holds at p changes -/
theorem EnvB.relay {K : PySem.W.Frag} {B F H : Hp} {σ : L2.St} {ρ : List Sl} {p : Addr} {o o' : HO} (I : EnvB K B F H σ ρ) (h : F p = some o) : EnvB K B (upd F p o') (upd H p o') σ ρ := by
  have hb : B p = none := I.dj p o h
  refine ⟨I.ln, fun a u e => ?_, same_upd2 I.fh, fun a u e => ?_, ?_⟩
  · rw [upd_ne (ne_of_none e hb)]
    exact I.bh a u e
  · by_cases ha : a = p
    · rw [ha]; exact hb
    · rw [upd_ne ha] at e
      exact I.dj a u e
  · obtain ⟨O, h1, h2⟩ := I.own
    have hp : ∀ a t, O a = some t → a ≠ p := fun a t e z => by
      have q := (h1 a t e).2.1
      rw [z, h] at q
      cases q
    refine ⟨O, fun a t e => ?_, fun i s hs => ?_⟩
    · obtain ⟨q1, q2, q3⟩ := h1 a t e
      rw [upd_ne (hp a t e), upd_ne (hp a t e)]
      exact ⟨q1, q2, q3⟩
    · rcases h2 i s hs with z | ⟨x, hx, hh⟩
      · exact .inl z
      · exact .inr ⟨x, hx, hold_mono (Same.refl B) (fun a t e => ⟨e, upd_ne (hp a _ e)⟩) hh⟩
/-- the frame's p becomes shared -/
theorem EnvB.share {K : PySem.W.Frag} {B F H : Hp} {σ : L2.St} {ρ : List Sl} {p : Addr} {o : HO} (I : EnvB K B (upd F p o) H σ ρ) (h : F p = none) : Same B (upd B p o) ∧ EnvB K (upd B p o) F H σ ρ := by
  have hp : H p = some o := I.fh p o upd_same
  have hb : B p = none := I.dj p o upd_same
  have sb : Same B (upd B p o) := same_upd hb
  have sf : Same F (upd F p o) := same_upd h
  refine ⟨sb, I.ln, fun a u e => ?_, sf.trans I.fh, fun a u e => ?_, ?_⟩
  · by_cases ha : a = p
    · rw [ha, upd_same] at e
      rw [ha, hp]; exact e
    · rw [upd_ne ha] at e
      exact I.bh a u e
  · rw [upd_ne (ne_of_none e h)]
    exact I.dj a u (sf a u e)
  · obtain ⟨O, h1, h2⟩ := I.own
    have hq : ∀ a t, O a = some t → a ≠ p := fun a t e z => by
      have q := (h1 a t e).2.1
      rw [z, upd_same] at q
      cases q
    refine ⟨O, fun a t e => ?_, fun i s hs => ?_⟩
    · obtain ⟨q1, q2, q3⟩ := h1 a t e
      rw [upd_ne (hq a t e)] at q2 ⊢
      exact ⟨q1, q2, q3⟩
    · rcases h2 i s hs with z | ⟨x, hx, hh⟩
      · exact .inl z
      · exact .inr ⟨x, hx, hold_mono sb (fun a t e => ⟨e, rfl⟩) hh⟩
/-- a slot gets a shared value -/
theorem EnvB.setv {K : PySem.W.Frag} {B F H : Hp} {σ : L2.St} {ρ : List Sl} (I : EnvB K B F H σ ρ) {x : V} {d : PyData} (i : Nat) (hi : i < ρ.length) (h : Dq K B x d) : EnvB K B F H (σ.set i (some x)) (ρ.set i (.v d)) := by
  have hi : i < σ.length := by rw [I.ln]; exact hi
  refine ⟨by rw [List.length_set, List.length_set, I.ln], I.bh, I.fh, I.dj, ?_⟩
  obtain ⟨O, h1, h2⟩ := I.own
  refine ⟨O, h1, fun j s hs => ?_⟩
  by_cases hj : i = j
  · subst hj
    by_cases hl : i < ρ.length
    · rw [List.getElem?_set_self hl] at hs
      cases hs
      exact .inr ⟨x, by rw [List.getElem?_set_self hi], h⟩
    · rw [List.getElem?_eq_none (by rw [List.length_set]; omega)] at hs
      cases hs
  · rw [List.getElem?_set_ne hj] at hs ⊢
    exact h2 j s hs
/-- a slot gets any value, of which nothing is kept -/
theorem EnvB.setno {K : PySem.W.Frag} {B F H : Hp} {σ : L2.St} {ρ : List Sl} (I : EnvB K B F H σ ρ) (i : Nat) (o : Option V) : EnvB K B F H (σ.set i o) (ρ.set i .no) := by
  refine ⟨by rw [List.length_set, List.length_set, I.ln], I.bh, I.fh, I.dj, ?_⟩
  obtain ⟨O, h1, h2⟩ := I.own
  refine ⟨O, h1, fun j s hs => ?_⟩
  by_cases hj : i = j
  · subst hj
    by_cases hl : i < ρ.length
    · rw [List.getElem?_set_self hl] at hs
      cases hs
      exact .inl rfl
    · rw [List.getElem?_eq_none (by rw [List.length_set]; omega)] at hs
      cases hs
  · rw [List.getElem?_set_ne hj] at hs ⊢
    exact h2 j s hs
/-- a slot gets a new list that it owns -/
theorem EnvB.setol {K : PySem.W.Frag} {B F H : Hp} {σ : L2.St} {ρ : List Sl} {p : Addr} {xs : List V} {ds : List PyData} (I : EnvB K B (upd F p (.lst xs)) H σ ρ) (h : F p = none) (hd : DqAll K B xs ds) (i : Nat) (hi : i < ρ.length) :
    EnvB K B F H (σ.set i (some (.ref p))) (ρ.set i (.ol ds)) := by
  have hp : H p = some (.lst xs) := I.fh p _ upd_same
  have hb : B p = none := I.dj p _ upd_same
  have sf : Same F (upd F p (.lst xs)) := same_upd h
  have hi : i < σ.length := by rw [I.ln]; exact hi
  refine ⟨by rw [List.length_set, List.length_set, I.ln], I.bh, sf.trans I.fh, fun a u e => I.dj a u (sf a u e), ?_⟩
  obtain ⟨O, h1, h2⟩ := I.own
  have hq : ∀ a t, O a = some t → a ≠ p := fun a t e z => by
    have q := (h1 a t e).2.1
    rw [z, upd_same] at q
    cases q
  refine ⟨fun a => if a = p then some (i, none) else if O a = some (i, none) then none else O a, fun a t e => ?_, fun j s hs => ?_⟩
  · by_cases ha : a = p
    · rw [ha]
      exact ⟨hb, h, by rw [hp]; simp⟩
    · dsimp only at e
      rw [if_neg ha] at e
      split at e
      · cases e
      · obtain ⟨q1, q2, q3⟩ := h1 a t e
        rw [upd_ne ha] at q2
        exact ⟨q1, q2, q3⟩
  · by_cases hj : i = j
    · subst hj
      by_cases hl : i < ρ.length
      · rw [List.getElem?_set_self hl] at hs
        cases hs
        exact .inr ⟨.ref p, by rw [List.getElem?_set_self hi], p, xs, rfl, if_pos rfl, hp, hd⟩
      · rw [List.getElem?_eq_none (by rw [List.length_set]; omega)] at hs
        cases hs
    · rw [List.getElem?_set_ne hj] at hs ⊢
      rcases h2 j s hs with z | ⟨x, hx, hh⟩
      · exact .inl z
      · refine .inr ⟨x, hx, hold_mono (Same.refl B) (fun a t e => ⟨?_, rfl⟩) hh⟩
        rw [if_neg (hq a _ e), if_neg (by rw [e]; intro z; injection z with z; injection z with z _; exact hj z.symm)]
        exact e
/-- the list that slot i owns changes -/
theorem EnvB.mutol {K : PySem.W.Frag} {B F H : Hp} {σ : L2.St} {ρ : List Sl} {i : Nat} {ds : List PyData} (I : EnvB K B F H σ ρ) (hi : ρ[i]? = some (.ol ds)) :
    ∃ l xs, σ[i]? = some (some (.ref l)) ∧ H l = some (.lst xs) ∧ DqAll K B xs ds ∧ ∀ xs' ds', DqAll K B xs' ds' → EnvB K B F (upd H l (.lst xs')) σ (ρ.set i (.ol ds')) := by
  obtain ⟨O, h1, h2⟩ := I.own
  rcases h2 i _ hi with z | ⟨x, hx, l, xs, e1, e2, e3, e4⟩
  · cases z
  · subst e1
    refine ⟨l, xs, hx, e3, e4, fun xs' ds' hd => ?_⟩
    obtain ⟨q1, q2, q3⟩ := h1 l _ e2
    refine ⟨by rw [List.length_set, I.ln], fun a u e => ?_, fun a u e => ?_, I.dj, O, fun a t e => ?_, fun j s hs => ?_⟩
    · rw [upd_ne (ne_of_none e q1)]; exact I.bh a u e
    · rw [upd_ne (ne_of_none e q2)]; exact I.fh a u e
    · refine ⟨(h1 a t e).1, (h1 a t e).2.1, ?_⟩
      by_cases ha : a = l
      · rw [ha, upd_same]; simp
      · rw [upd_ne ha]; exact (h1 a t e).2.2
    · by_cases hj : i = j
      · subst hj
        have hl : i < ρ.length := (List.getElem?_eq_some_iff.mp hi).1
        rw [List.getElem?_set_self hl] at hs
        cases hs
        exact .inr ⟨.ref l, hx, l, xs', rfl, e2, upd_same, hd⟩
      · rw [List.getElem?_set_ne hj] at hs
        rcases h2 j s hs with z | ⟨x, hx, hh⟩
        · exact .inl z
        · refine .inr ⟨x, hx, hold_mono (Same.refl B) (fun a t e => ⟨e, upd_ne fun z => ?_⟩) hh⟩
          subst z
          rw [e2] at e
          injection e with e
          injection e with e _
          exact hj e

/-! ### weaker slots -/
def Le1 (a b : Sl) : Prop := a = b ∨ a = .no
def Le (a b : List Sl) : Prop := a.length = b.length ∧ ∀ (i : Nat) (s : Sl), a[i]? = some s → s = Sl.no ∨ b[i]? = some s
theorem EnvB.le {K : PySem.W.Frag} {B F H : Hp} {σ : L2.St} {ρ ρ' : List Sl} (I : EnvB K B F H σ ρ) (h : Le ρ' ρ) : EnvB K B F H σ ρ' := by
  refine ⟨by rw [I.ln, h.1], I.bh, I.fh, I.dj, ?_⟩
  obtain ⟨O, h1, h2⟩ := I.own
  refine ⟨O, h1, fun i s hs => ?_⟩
  rcases h.2 i s hs with z | z
  · exact .inl z
  · exact h2 i s z
theorem Le.refl (a : List Sl) : Le a a := ⟨rfl, fun _ _ h => .inr h⟩
theorem le_nil : Le [] [] := Le.refl _
theorem le_same {x : Sl} {a b : List Sl} (h : Le a b) : Le (x :: a) (x :: b) := ⟨by rw [List.length_cons, List.length_cons, h.1], fun i s hs => match i, hs with
  | 0, hs => .inr hs
  | i + 1, hs => h.2 i s hs⟩
theorem le_drop {x : Sl} {a b : List Sl} (h : Le a b) : Le (.no :: a) (x :: b) := ⟨by rw [List.length_cons, List.length_cons, h.1], fun i s hs => match i, hs with
  | 0, hs => .inl (by simpa using hs.symm)
  | i + 1, hs => h.2 i s hs⟩
/-- an owned list is given up: it is shared from now on -/
theorem EnvB.freeze {K : PySem.W.Frag} {B F H : Hp} {σ : L2.St} {ρ : List Sl} {i : Nat} {ds : List PyData} (I : EnvB K B F H σ ρ) (hi : ρ[i]? = some (.ol ds)) : ∃ B', Same B B' ∧ EnvB K B' F H σ (ρ.set i (.v (.list ds))) := by
  obtain ⟨O, h1, h2⟩ := I.own
  rcases h2 i _ hi with z | ⟨x, hx, l, xs, e1, e2, e3, e4⟩
  · cases z
  · subst e1
    obtain ⟨q1, q2, q3⟩ := h1 l _ e2
    have sb : Same B (upd B l (.lst xs)) := same_upd q1
    refine ⟨upd B l (.lst xs), sb, by rw [List.length_set, I.ln], fun a u e => ?_, I.fh, fun a u e => ?_, fun a => if a = l then none else O a, fun a t e => ?_, fun j s hs => ?_⟩
    · by_cases ha : a = l
      · rw [ha, upd_same] at e
        rw [ha, e3]; exact e
      · rw [upd_ne ha] at e
        exact I.bh a u e
    · rw [upd_ne (ne_of_none e q2)]
      exact I.dj a u e
    · dsimp only at e
      split at e
      · cases e
      · rename_i ha
        rw [upd_ne ha]
        exact h1 a t e
    · by_cases hj : i = j
      · subst hj
        have hl : i < ρ.length := (List.getElem?_eq_some_iff.mp hi).1
        rw [List.getElem?_set_self hl] at hs
        cases hs
        exact .inr ⟨.ref l, hx, .lst upd_same (dpa_mono sb e4)⟩
      · rw [List.getElem?_set_ne hj] at hs
        rcases h2 j s hs with z | ⟨x, hx, hh⟩
        · exact .inl z
        · refine .inr ⟨x, hx, hold_mono sb (fun a t e => ⟨?_, rfl⟩) hh⟩
          rw [if_neg fun z => ?_]
          · exact e
          · subst z
            rw [e2] at e
            injection e with e
            injection e with e _
            exact hj e
end Dl

namespace Dl
open PySem PySem.Spec PyProof.Rows L2

/-! ### the semantic readings -/
def semE (X : Cx) (e : Expr) : TE := fun σ H Q => ∀ (pins : List (Addr × Obj)) (s : Shared), Inv X pins σ H s → wpAny (model X.prog X.w) X.A (eval e X.env) (EP X pins σ Q) X.xe s
def semT (X : Cx) (e : Expr) : TT := fun σ H Q => ∀ (pins : List (Addr × Obj)) (s : Shared), Inv X pins σ H s → wpAny (model X.prog X.w) X.A (isTrue e X.env (eval e X.env)) (TP X pins σ Q) X.xe s
def semW (X : Cx) (e : Expr) : TT := fun σ H Q => ∀ (whole : Sem Value) (pins : List (Addr × Obj)) (s : Shared), Inv X pins σ H s → wpAny (model X.prog X.w) X.A (isTrue e X.env whole) (TP X pins σ Q) X.xe s
def semA (X : Cx) (es : List Expr) : TA := fun σ H Q => ∀ (pos : Pos) (pins : List (Addr × Obj)) (s : Shared), Inv X pins σ H s → wpAny (model X.prog X.w) X.A (spliced (backTo pos (starEach es X.env))) (AP X pins σ Q) X.xe s
def semS (X : Cx) (st : Stmt) : TS := fun D σ H => ∀ (pins : List (Addr × Obj)) (s : Shared), Inv X pins σ H s → wpAny (model X.prog X.w) X.A (exec st X.env) (SP X pins D) X.xe s
def semB (X : Cx) (st : List Stmt) : TS := fun D σ H => ∀ (pins : List (Addr × Obj)) (s : Shared), Inv X pins σ H s → wpAny (model X.prog X.w) X.A (execs st X.env) (SP X pins D) X.xe s
def semI (X : Cx) (tg iter : Expr) : TI := fun σ H R => ∀ (pins : List (Addr × Obj)) (s : Shared), Inv X pins σ H s →
    wpAny (model X.prog X.w) X.A (eval iter X.env) (fun v s1 => wpAny (model X.prog X.w) X.A (pyIter v) (PIE X pins σ tg R) X.xe s1) X.xe s
theorem pe_sem {X : Cx} {e : Expr} : PE X e (semE X e) := ⟨fun pins s _ _ _ I h => h pins s I⟩
theorem pt_sem {X : Cx} {e : Expr} : PT X e (semT X e) := ⟨fun pins s _ _ _ I h => h pins s I⟩
theorem pw_sem {X : Cx} {e : Expr} : PW X e (semW X e) := ⟨fun wh pins s _ _ _ I h => h wh pins s I⟩
theorem pa_sem {X : Cx} {es : List Expr} : PA X es (semA X es) := ⟨fun pos pins s _ _ _ I h => h pos pins s I⟩
theorem ps_sem {X : Cx} {st : Stmt} : PS X st (semS X st) := ⟨fun pins s _ _ _ I h => h pins s I⟩
theorem pb_sem {X : Cx} {st : List Stmt} : PSs X st (semB X st) := ⟨fun pins s _ _ _ I h => h pins s I⟩
theorem pi_sem {X : Cx} {tg iter : Expr} : PI X tg iter (semI X tg iter) := ⟨fun pins s _ _ _ I h => h pins s I⟩

/-! ### where one stands -/
structure Md where
  P : Program
  w : World
  K : PySem.W.Frag
  mg : Str → Option Value
  base : Heap
/-- a scope as it is read, and as it is stored to -/
structure Sco where
  rd : Scope
  st : Scope
def visB (sc : Sco) (x : Str) : Bool := match sc.rd.names.lookup x with
  | some .local => true
  | some .cell => true
  | some .free => true
  | _ => false
def locB (sc : Sco) (x : Str) : Bool := match sc.st.names.lookup x with
  | some .local => true
  | some .cell => true
  | _ => false
def glB (sc : Sco) (x : Str) : Bool := match sc.rd.names.lookup x with
  | some .globalImplicit => true
  | _ => false
structure Cv (M : Md) (N : List Str) (sc : Sco) (X : Cx) : Prop where
  eP : X.prog = M.P
  ew : X.w = M.w
  eK : X.K = M.K
  eg : X.mg = M.mg
  eb : X.base = M.base
  hN : X.N = N
  nd : N.Nodup
  hs : X.env.scope = sc.rd
  kind : sc.rd.kind = .function
  loc : ∀ {x}, locB sc x = true → Loc X.env.scope x ∧ (X.fn x = true ∨ X.env.scope.names.lookup x = some .local)
  un : X.A.units + 200 < cLine
structure Cn (M : Md) (k : Nat) (N : List Str) (sc : Sco) (X : Cx) (W : WX) : Prop extends Cv M N sc X where
  calm : X.calm = true
  room : Room k X.A
  tk : L2N.Takes X W
  po : PassesOwn (model X.prog X.w) X.A X.env X.xe
def okN (x : Str) : Bool := !(x == ("__debug__" : Str)) && !(x == ("__classdict__" : Str)) && !decide (x = ("__name__" : Str))
theorem okN1 {x : Str} (h : okN x = true) : (x == ("__debug__" : Str)) = false := by
  unfold okN at h
  rw [Bool.and_eq_true, Bool.and_eq_true] at h
  simpa using h.1.1
theorem okN2 {x : Str} (h : okN x = true) : (x == ("__classdict__" : Str)) = false := by
  unfold okN at h
  rw [Bool.and_eq_true, Bool.and_eq_true] at h
  simpa using h.1.2
theorem okN3 {x : Str} (h : okN x = true) : x ≠ ("__name__" : Str) := by
  unfold okN at h
  rw [Bool.and_eq_true, Bool.and_eq_true] at h
  simpa using h.2
theorem Cv.vis {M : Md} {N : List Str} {sc : Sco} {X : Cx} (c : Cv M N sc X) {x : Str} (h : visB sc x = true) : Vis X.env.scope x := by
  rw [c.hs]
  unfold visB at h
  split at h
  · exact .inl (by assumption)
  · exact .inr (.inl (by assumption))
  · exact .inr (.inr (by assumption))
  · cases h
theorem Cv.gl {M : Md} {N : List Str} {sc : Sco} {X : Cx} (c : Cv M N sc X) {x : Str} (h : glB sc x = true) : Gl X x := by
  show X.env.scope.names.lookup x = some .globalImplicit
  rw [c.hs]
  unfold glB at h
  split at h
  · assumption
  · cases h
theorem loc_def {sc : Scope} {X : Cx} (hs : X.env.scope = sc) (hf : ∀ x, X.fn x = true) {x : Str} (h : locB ⟨sc, sc⟩ x = true) : Loc X.env.scope x ∧ (X.fn x = true ∨ X.env.scope.names.lookup x = some .local) := by
  rw [hs]
  unfold locB at h
  split at h
  · exact ⟨.inl (by assumption), .inr (by assumption)⟩
  · exact ⟨.inr (by assumption), .inl (hf x)⟩
  · cases h

/-! ### judgements -/
def DE (M : Md) (X : Cx) (e : Expr) (ρ : List Sl) (d : PyData) : Prop := ∀ B F σ H, EnvB M.K B F H σ ρ → ∀ Q : VK, (∀ v H' B', Same B B' → EnvB M.K B' F H' σ ρ → Dq M.K B' v d → Q v H') → semE X e σ H Q
def DT (M : Md) (X : Cx) (e : Expr) (ρ : List Sl) (b : Bool) : Prop := ∀ B F σ H, EnvB M.K B F H σ ρ → ∀ Q : Bool → Hp → Prop, (∀ H' B', Same B B' → EnvB M.K B' F H' σ ρ → Q b H') → semT X e σ H Q
def DW (M : Md) (X : Cx) (e : Expr) (ρ : List Sl) (b : Bool) : Prop := ∀ B F σ H, EnvB M.K B F H σ ρ → ∀ Q : Bool → Hp → Prop, (∀ H' B', Same B B' → EnvB M.K B' F H' σ ρ → Q b H') → semW X e σ H Q
def DA (M : Md) (X : Cx) (es : List Expr) (ρ : List Sl) (ds : List PyData) : Prop := ∀ B F σ H, EnvB M.K B F H σ ρ → ∀ Q : List V → Hp → Prop, (∀ vs H' B', Same B B' → EnvB M.K B' F H' σ ρ → DqAll M.K B' vs ds → Q vs H') → semA X es σ H Q
/-- a new list, not shared yet -/
def DN (M : Md) (X : Cx) (e : Expr) (ρ : List Sl) (ds : List PyData) : Prop := ∀ B F σ H, EnvB M.K B F H σ ρ → ∀ Q : VK, (∀ p xs H' B', Same B B' → F p = none → EnvB M.K B' (upd F p (.lst xs)) H' σ ρ → DqAll M.K B' xs ds → Q (.ref p) H') → semE X e σ H Q
structure REnds where
  rt : PyData → List Sl → Prop
  ex : Addr → List Sl → Prop := fun _ _ => False
  bk : List Sl → Prop := fun _ => False
  ct : List Sl → Prop := fun _ => False
structure Fits (M : Md) (W : WX) (nx : List Sl → Prop) (R : REnds) (B F : Hp) (E : Ends) : Prop where
  nx : ∀ ρ σ H B', nx ρ → Same B B' → EnvB M.K B' F H σ ρ → E.nx σ H
  rt : ∀ d ρ x σ H B', R.rt d ρ → Same B B' → EnvB M.K B' F H σ ρ → Dq M.K B' x d → E.rt x H
  ex : ∀ C ρ σ H B', R.ex C ρ → Same B B' → EnvB M.K B' F H σ ρ → W (.ref C) none σ H
  bk : ∀ ρ σ H B', R.bk ρ → Same B B' → EnvB M.K B' F H σ ρ → E.bk σ H
  ct : ∀ ρ σ H B', R.ct ρ → Same B B' → EnvB M.K B' F H σ ρ → E.ct σ H
theorem Fits.mono {M : Md} {W : WX} {nx : List Sl → Prop} {R : REnds} {B B1 F : Hp} {E : Ends} (f : Fits M W nx R B F E) (s : Same B B1) : Fits M W nx R B1 F E :=
  ⟨fun ρ σ H B' h t I => f.nx ρ σ H B' h (s.trans t) I, fun d ρ x σ H B' h t I p => f.rt d ρ x σ H B' h (s.trans t) I p, fun C ρ σ H B' h t I => f.ex C ρ σ H B' h (s.trans t) I, fun ρ σ H B' h t I => f.bk ρ σ H B' h (s.trans t) I, fun ρ σ H B' h t I => f.ct ρ σ H B' h (s.trans t) I⟩
def DS (M : Md) (X : Cx) (W : WX) (st : Stmt) (ρ : List Sl) (nx : List Sl → Prop) (R : REnds) : Prop := ∀ B F σ H, EnvB M.K B F H σ ρ → ∀ E : Ends, Fits M W nx R B F E → semS X st E σ H
def DB (M : Md) (X : Cx) (W : WX) (st : List Stmt) (ρ : List Sl) (nx : List Sl → Prop) (R : REnds) : Prop := ∀ B F σ H, EnvB M.K B F H σ ρ → ∀ E : Ends, Fits M W nx R B F E → semB X st E σ H

section
variable {M : Md} {X : Cx} {W : WX} {N : List Str} {sc : Sco} {k : Nat} {ρ : List Sl} {d d1 d2 d3 : PyData} {ds : List PyData} {e a b c' : Expr} {es : List Expr} {pos p2 : Pos} {x : Str} {bb b1 b2 : Bool} {i : Nat}
theorem de_of {t : TE} (h : PE X e t) (hv : ∀ B F σ H, EnvB M.K B F H σ ρ → ∀ Q : VK, (∀ v H' B', Same B B' → EnvB M.K B' F H' σ ρ → Dq M.K B' v d → Q v H') → t σ H Q) : DE M X e ρ d := fun B F σ H I Q q pins s iv => h.run pins s σ H Q iv (hv B F σ H I Q q)
theorem dn_of {t : TE} (h : PE X e t) (hv : ∀ B F σ H, EnvB M.K B F H σ ρ → ∀ Q : VK, (∀ p xs H' B', Same B B' → F p = none → EnvB M.K B' (upd F p (.lst xs)) H' σ ρ → DqAll M.K B' xs ds → Q (.ref p) H') → t σ H Q) : DN M X e ρ ds := fun B F σ H I Q q pins s iv => h.run pins s σ H Q iv (hv B F σ H I Q q)
theorem dt_of {t : TT} (h : PT X e t) (hv : ∀ B F σ H, EnvB M.K B F H σ ρ → ∀ Q : Bool → Hp → Prop, (∀ H' B', Same B B' → EnvB M.K B' F H' σ ρ → Q bb H') → t σ H Q) : DT M X e ρ bb := fun B F σ H I Q q pins s iv => h.run pins s σ H Q iv (hv B F σ H I Q q)
theorem dw_of {t : TT} (h : PW X e t) (hv : ∀ B F σ H, EnvB M.K B F H σ ρ → ∀ Q : Bool → Hp → Prop, (∀ H' B', Same B B' → EnvB M.K B' F H' σ ρ → Q bb H') → t σ H Q) : DW M X e ρ bb := fun B F σ H I Q q wh pins s iv => h.run wh pins s σ H Q iv (hv B F σ H I Q q)
theorem da_of {t : TA} (h : PA X es t) (hv : ∀ B F σ H, EnvB M.K B F H σ ρ → ∀ Q : List V → Hp → Prop, (∀ vs H' B', Same B B' → EnvB M.K B' F H' σ ρ → DqAll M.K B' vs ds → Q vs H') → t σ H Q) : DA M X es ρ ds := fun B F σ H I Q q pos pins s iv => h.run pos pins s σ H Q iv (hv B F σ H I Q q)
theorem ds_of {st : Stmt} {nx : List Sl → Prop} {R : REnds} {t : TS} (h : PS X st t) (hv : ∀ B F σ H, EnvB M.K B F H σ ρ → ∀ E : Ends, Fits M W nx R B F E → t E σ H) : DS M X W st ρ nx R := fun B F σ H I E q pins s iv => h.run pins s σ H E iv (hv B F σ H I E q)
theorem db_of {st : List Stmt} {nx : List Sl → Prop} {R : REnds} {t : TS} (h : PSs X st t) (hv : ∀ B F σ H, EnvB M.K B F H σ ρ → ∀ E : Ends, Fits M W nx R B F E → t E σ H) : DB M X W st ρ nx R := fun B F σ H I E q pins s iv => h.run pins s σ H E iv (hv B F σ H I E q)
theorem DE.eq (h : DE M X e ρ d1) (q : d1 = d) : DE M X e ρ d := q ▸ h
theorem DT.eq (h : DT M X e ρ b1) (q : b1 = bb) : DT M X e ρ bb := q ▸ h
/-- a new list is a list -/
theorem DN.de (h : DN M X e ρ ds) : DE M X e ρ (.list ds) := fun B F σ H I Q q => h B F σ H I Q fun p xs H' B' s hf I1 hd => by
  obtain ⟨s2, I2⟩ := I1.share hf
  exact q _ _ _ (s.trans s2) I2 (.lst upd_same (dpa_mono s2 hd))

/-! ### names, constants -/
theorem EnvB.get {K : PySem.W.Frag} {B F H : Hp} {σ : L2.St} (I : EnvB K B F H σ ρ) (h : ρ[i]? = some (.v d)) : ∃ v, σ[i]? = some (some v) ∧ Dq K B v d := by
  obtain ⟨O, _, h2⟩ := I.own
  rcases h2 i _ h with z | ⟨v, hv, hh⟩
  · cases z
  · exact ⟨v, hv, hh⟩
theorem de_var (c : Cv M N sc X) (i : Nat) (hi : N[i]? = some x) (hd : ρ[i]? = some (.v d)) (hv : (visB sc x && okN x) = true := by decide +kernel) : DE M X (.Name x pos) ρ d := by
  rw [Bool.and_eq_true] at hv
  refine de_of (pe_var (by rw [c.hN]; exact hi) (c.vis hv.1) (okN1 hv.2) (okN2 hv.2)) fun B F σ H I Q q => ?_
  obtain ⟨v, hv, hh⟩ := I.get hd
  exact ⟨v, hv, q v H B (Same.refl B) I hh⟩
theorem de_int {n : Int} {j} : DE M X (.Constant (.int n) j pos) ρ (.int n) := de_of pe_int fun B F σ H I Q q => q _ H B (Same.refl B) I (.int n)
theorem de_str {y : Str} {j} : DE M X (.Constant (.str y) j pos) ρ (.str y) := de_of pe_str fun B F σ H I Q q => q _ H B (Same.refl B) I (.str y)
theorem de_bl {y : Bool} {j} : DE M X (.Constant (.bool y) j pos) ρ (.bool y) := de_of pe_bl fun B F σ H I Q q => q _ H B (Same.refl B) I (.bl y)
theorem de_non {j} : DE M X (.Constant .none j pos) ρ .none := de_of pe_non fun B F σ H I Q q => q _ H B (Same.refl B) I .non
/-- a constant of the module -/
theorem de_glob {v : V} {u : Value} (c : Cv M N sc X) (hm : M.mg x = some u) (r : RelV v u) (hd : ∀ B, Dq M.K B v d) (hv : (glB sc x && okN x) = true := by decide +kernel) : DE M X (.Name x pos) ρ d := by
  rw [Bool.and_eq_true] at hv
  exact de_of (pe_glob (c.gl hv.1) (by rw [c.eg]; exact hm) r (okN1 hv.2)) fun B F σ H I Q q => q _ H B (Same.refl B) I (hd B)

/-! ### operators by data -/
def Op2 (M : Md) (X : Cx) (f : Value → Value → Sem Value) (d1 d2 d : PyData) : Prop := ∃ r : R2, OpR X f r ∧ ∀ B F σ H ρ v1 v2, EnvB M.K B F H σ ρ → Dq M.K B v1 d1 → Dq M.K B v2 d2 → ∀ Q : VK, (∀ v H' B', Same B B' → EnvB M.K B' F H' σ ρ → Dq M.K B' v d → Q v H') → r v1 v2 H Q
theorem run2 {σ : L2.St} {H : Hp} {B F : Hp} {R : V → V → Hp → Prop} (ha : DE M X a ρ d1) (hb : DE M X b ρ d2) (I : EnvB M.K B F H σ ρ)
    (q : ∀ v1 v2 H' B', Same B B' → EnvB M.K B' F H' σ ρ → Dq M.K B' v1 d1 → Dq M.K B' v2 d2 → R v1 v2 H') : semE X a σ H fun v1 H1 => semE X b σ H1 fun v2 H2 => R v1 v2 H2 :=
  ha B F σ H I _ fun v1 H1 B1 s1 I1 p1 => hb B1 F σ H1 I1 _ fun v2 H2 B2 s2 I2 p2 => q v1 v2 H2 B2 (s1.trans s2) I2 (dp_mono s2 p1) p2
theorem de_bin {op : Operator} (ha : DE M X a ρ d1) (hb : DE M X b ρ d2) (ho : Op2 M X (binaryOp op) d1 d2 d) : DE M X (.BinOp a op b pos) ρ d := by
  obtain ⟨r, hr, hq⟩ := ho
  refine de_of (pe_op hr pe_sem pe_sem) fun B F σ H I Q q => run2 (R := fun v1 v2 H' => r v1 v2 H' Q) ha hb I fun v1 v2 H' B' s I' p1 p2 => ?_
  exact hq B' F σ H' ρ v1 v2 I' p1 p2 Q fun v H2 B2 s2 I2 p3 => q v H2 B2 (s.trans s2) I2 p3
theorem de_cmp {op : CmpOp} (ha : DE M X a ρ d1) (hb : DE M X b ρ d2) (ho : Op2 M X (compareOp op) d1 d2 (.bool bb)) (hm : behindInMarks op b = false) : DE M X (.Compare a [op] [b] pos) ρ (.bool bb) := by
  obtain ⟨r, hr, hq⟩ := ho
  refine de_of (pe_cmpR hr pe_sem pe_sem hm) fun B F σ H I Q q => run2 (R := fun v1 v2 H' => r v1 v2 H' Q) ha hb I fun v1 v2 H' B' s I' p1 p2 => ?_
  exact hq B' F σ H' ρ v1 v2 I' p1 p2 Q fun v H2 B2 s2 I2 p3 => q v H2 B2 (s.trans s2) I2 p3
theorem dt_cmp {op : CmpOp} (ha : DE M X a ρ d1) (hb : DE M X b ρ d2) (ho : Op2 M X (compareOp op) d1 d2 (.bool bb)) (hm : behindInMarks op b = false) : DT M X (.Compare a [op] [b] pos) ρ bb := by
  obtain ⟨r, hr, hq⟩ := ho
  refine dt_of (pt_cmpR hr pe_sem pe_sem hm) fun B F σ H I Q q => run2 (R := fun v1 v2 H' => r v1 v2 H' fun x H2 => ∃ k, x = .bl k ∧ Q k H2) ha hb I fun v1 v2 H' B' s I' p1 p2 => ?_
  refine hq B' F σ H' ρ v1 v2 I' p1 p2 _ fun v H2 B2 s2 I2 p3 => ?_
  cases p3
  exact ⟨bb, rfl, q H2 B2 (s.trans s2) I2⟩
/-- a < b < c -/
theorem dt_chain {op op' : CmpOp} (ha : DE M X a ρ d1) (hb : DE M X b ρ d2) (ho : Op2 M X (compareOp op) d1 d2 (.bool b1)) (hc : b1 = true → DE M X c' ρ d3) (ho' : b1 = true → Op2 M X (compareOp op') d2 d3 (.bool b2))
    (hm : lastMarks [op, op'] [b, c'] = false := by with_unfolding_all rfl) (he : bb = (b1 && b2)) : DT M X (.Compare a [op, op'] [b, c'] pos) ρ bb := by
  obtain ⟨r, hr, hq⟩ := ho
  by_cases hb1 : b1 = true
  · obtain ⟨r', hr', hq'⟩ := ho' hb1
    have hc := hc hb1
    refine dt_of (pt_chain hr hr' pe_sem pe_sem pe_sem hm) fun B F σ H I Q q => ?_
    refine ha B F σ H I _ fun v1 H1 B1 s1 I1 p1 => hb B1 F σ H1 I1 _ fun v2 H2 B2 s2 I2 p2 => ?_
    refine hq B2 F σ H2 ρ v1 v2 I2 (dp_mono s2 p1) p2 _ fun v H3 B3 s3 I3 p3 => ?_
    cases p3
    refine ⟨b1, rfl, ?_⟩
    rw [if_pos hb1]
    refine hc B3 F σ H3 I3 _ fun v4 H4 B4 s4 I4 p4 => ?_
    refine hq' B4 F σ H4 ρ v2 v4 I4 (dp_mono (s3.trans s4) p2) p4 _ fun v5 H5 B5 s5 I5 p5 => ?_
    cases p5
    refine ⟨b2, rfl, ?_⟩
    have e2 : b2 = bb := by rw [he, hb1]; rfl
    rw [e2]
    exact q H5 B5 ((((s1.trans s2).trans s3).trans s4).trans s5) I5
  · have e1 : b1 = false := by simpa using hb1
    refine dt_of (pt_chain hr (r' := fun _ _ _ _ => False) (fun _ _ _ _ _ _ _ _ _ _ _ _ z => z.elim) pe_sem pe_sem pe_sem hm) fun B F σ H I Q q => ?_
    refine ha B F σ H I _ fun v1 H1 B1 s1 I1 p1 => hb B1 F σ H1 I1 _ fun v2 H2 B2 s2 I2 p2 => ?_
    refine hq B2 F σ H2 ρ v1 v2 I2 (dp_mono s2 p1) p2 _ fun v H3 B3 s3 I3 p3 => ?_
    cases p3
    refine ⟨b1, rfl, ?_⟩
    rw [if_neg hb1]
    have e2 : bb = false := by rw [he, e1]; rfl
    rw [e2] at q
    exact ⟨false, rfl, q H3 B3 ((s1.trans s2).trans s3) I3⟩
/-- operators whose answer is a plain value -/
theorem op2_val {f : Value → Value → Sem Value} {r : R2} {v1 v2 v : V} (hr : OpR X f r) (i1 : ∀ B u, Dq M.K B u d1 → u = v1) (i2 : ∀ B u, Dq M.K B u d2 → u = v2) (hd : ∀ B, Dq M.K B v d) (h : ∀ H Q, Q v H → r v1 v2 H Q) : Op2 M X f d1 d2 d := by
  refine ⟨r, hr, fun B F σ H ρ u1 u2 I p1 p2 Q q => ?_⟩
  rw [i1 B u1 p1, i2 B u2 p2]
  exact h H Q (q _ _ _ (Same.refl B) I (hd B))
theorem inv_int {K : PySem.W.Frag} {n : Int} : ∀ B u, Dq K B u (.int n) → u = .int n := fun _ _ h => by cases h; rfl
theorem inv_str {K : PySem.W.Frag} {n : Str} : ∀ B u, Dq K B u (.str n) → u = .str n := fun _ _ h => by cases h; rfl
theorem inv_bl {K : PySem.W.Frag} {n : Bool} : ∀ B u, Dq K B u (.bool n) → u = .bl n := fun _ _ h => by cases h; rfl
theorem inv_non {K : PySem.W.Frag} : ∀ B u, Dq K B u .none → u = .non := fun _ _ h => by cases h; rfl
variable {m n : Int}
theorem o_add : Op2 M X (binaryOp .Add) (.int m) (.int n) (.int (m + n)) := op2_val op_add inv_int inv_int (fun B => .int (m + n)) fun H Q q => ⟨m, n, rfl, rfl, q⟩
theorem o_sub : Op2 M X (binaryOp .Sub) (.int m) (.int n) (.int (m - n)) := op2_val op_sub inv_int inv_int (fun B => .int (m - n)) fun H Q q => ⟨m, n, rfl, rfl, q⟩
theorem o_mul (h : CMul m n) : Op2 M X (binaryOp .Mult) (.int m) (.int n) (.int (m * n)) := op2_val op_mul inv_int inv_int (fun B => .int (m * n)) fun H Q q => ⟨m, n, rfl, rfl, h, q⟩
theorem o_mulW (h : CMulW m n) : Op2 M X (binaryOp .Mult) (.int m) (.int n) (.int (m * n)) := op2_val op_mulW inv_int inv_int (fun B => .int (m * n)) fun H Q q => ⟨m, n, rfl, rfl, h, q⟩
theorem o_fdiv (h : CDiv m n) : Op2 M X (binaryOp .FloorDiv) (.int m) (.int n) (.int (m / n)) := op2_val op_fdiv inv_int inv_int (fun B => .int (m / n)) fun H Q q => ⟨m, n, rfl, rfl, h, q⟩
theorem o_fdivW (h : CDivW m n) : Op2 M X (binaryOp .FloorDiv) (.int m) (.int n) (.int (m / n)) := op2_val op_fdivW inv_int inv_int (fun B => .int (m / n)) fun H Q q => ⟨m, n, rfl, rfl, h, q⟩
theorem o_mod (h : 0 < n) : Op2 M X (binaryOp .Mod) (.int m) (.int n) (.int (m % n)) := op2_val op_mod inv_int inv_int (fun B => .int (m % n)) fun H Q q => ⟨m, n, rfl, rfl, h, q⟩
theorem o_shl (h : CPow m n) : Op2 M X (binaryOp .LShift) (.int m) (.int n) (.int (m * 2 ^ n.toNat)) := op2_val op_shl inv_int inv_int (fun B => .int (m * 2 ^ n.toNat)) fun H Q q => ⟨m, n, rfl, rfl, h, q⟩
theorem o_lt : Op2 M X (compareOp .Lt) (.int m) (.int n) (.bool (decide (m < n))) := op2_val op_lt inv_int inv_int (fun B => .bl _) fun H Q q => ⟨m, n, rfl, rfl, q⟩
theorem o_le : Op2 M X (compareOp .LtE) (.int m) (.int n) (.bool (decide (m ≤ n))) := op2_val op_le inv_int inv_int (fun B => .bl _) fun H Q q => ⟨m, n, rfl, rfl, q⟩
theorem o_gt : Op2 M X (compareOp .Gt) (.int m) (.int n) (.bool (decide (n < m))) := op2_val op_gt inv_int inv_int (fun B => .bl _) fun H Q q => ⟨m, n, rfl, rfl, q⟩
theorem o_ge : Op2 M X (compareOp .GtE) (.int m) (.int n) (.bool (decide (n ≤ m))) := op2_val op_ge inv_int inv_int (fun B => .bl _) fun H Q q => ⟨m, n, rfl, rfl, q⟩
theorem o_eqI : Op2 M X (compareOp .Eq) (.int m) (.int n) (.bool (decide (m = n))) := op2_val op_eq inv_int inv_int (fun B => .bl _) fun H Q q => ⟨rfl, by
  have e : decide (V.int m = V.int n) = decide (m = n) := by simp
  rw [e]; exact q⟩
theorem o_neI : Op2 M X (compareOp .NotEq) (.int m) (.int n) (.bool (!decide (m = n))) := op2_val op_ne inv_int inv_int (fun B => .bl _) fun H Q q => ⟨rfl, by
  have e : decide (V.int m = V.int n) = decide (m = n) := by simp
  rw [e]; exact q⟩
theorem o_eqS {y z : Str} : Op2 M X (compareOp .Eq) (.str y) (.str z) (.bool (decide (y = z))) := op2_val op_eq inv_str inv_str (fun B => .bl _) fun H Q q => ⟨rfl, by
  have e : decide (V.str y = V.str z) = decide (y = z) := by simp
  rw [e]; exact q⟩
theorem o_neS {y z : Str} : Op2 M X (compareOp .NotEq) (.str y) (.str z) (.bool (!decide (y = z))) := op2_val op_ne inv_str inv_str (fun B => .bl _) fun H Q q => ⟨rfl, by
  have e : decide (V.str y = V.str z) = decide (y = z) := by simp
  rw [e]; exact q⟩
/-- == of any data -/
theorem o_eqD (c : Cv M N sc X) (h1 : SeqAt.shaped d1 = true) (h2 : SeqAt.shaped d2 = true) : Op2 M X (compareOp .Eq) d1 d2 (.bool (PyData.eqv d1 d2)) :=
  ⟨_, op_eqD (by have := c.un; omega), fun B F σ H ρ u1 u2 I p1 p2 Q q => ⟨d1, d2, by rw [c.eK]; exact dq_dp (dp_mono I.bh p1) (SeqAt.canLay_of_shaped h1), by rw [c.eK]; exact dq_dp (dp_mono I.bh p2) (SeqAt.canLay_of_shaped h2), h1, h2, q _ _ _ (Same.refl B) I (.bl _)⟩⟩
theorem o_neD (c : Cv M N sc X) (h1 : SeqAt.shaped d1 = true) (h2 : SeqAt.shaped d2 = true) : Op2 M X (compareOp .NotEq) d1 d2 (.bool (!PyData.eqv d1 d2)) :=
  ⟨_, op_neD (by have := c.un; omega), fun B F σ H ρ u1 u2 I p1 p2 Q q => ⟨d1, d2, by rw [c.eK]; exact dq_dp (dp_mono I.bh p1) (SeqAt.canLay_of_shaped h1), by rw [c.eK]; exact dq_dp (dp_mono I.bh p2) (SeqAt.canLay_of_shaped h2), h1, h2, q _ _ _ (Same.refl B) I (.bl _)⟩⟩
def isNone : PyData → Bool
  | .none => true
  | _ => false
theorem dec_non {K : PySem.W.Frag} {B : Hp} {v : V} (p : Dq K B v d) : decide (v = V.non) = isNone d := by cases p <;> simp [isNone]
theorem o_isN : Op2 M X (compareOp .Is) d .none (.bool (isNone d)) := ⟨_, op_isN, fun B F σ H ρ u1 u2 I p1 p2 Q q => by
  cases p2
  refine ⟨rfl, ?_⟩
  rw [dec_non p1]
  exact q _ _ _ (Same.refl B) I (.bl _)⟩
theorem o_notN : Op2 M X (compareOp .IsNot) d .none (.bool (!isNone d)) := ⟨_, op_notN, fun B F σ H ρ u1 u2 I p1 p2 Q q => by
  cases p2
  refine ⟨rfl, ?_⟩
  rw [dec_non p1]
  exact q _ _ _ (Same.refl B) I (.bl _)⟩

/-! ### truth, and, or, not -/
def tru : PyData → Bool
  | .none => false
  | .bool b => b
  | .int i => i != 0
  | .str s => (s.length : Int) != 0
  | .list xs => !xs.isEmpty
  | .tuple xs => !xs.isEmpty
  | .dict kvs => !kvs.isEmpty
def truOk : PyData → Prop
  | .str s => s.length ≤ sizeLine
  | _ => True
theorem tru_of {K : PySem.W.Frag} {B H : Hp} {v : V} (e : Same B H) (p : Dq K B v d) (h : truOk d) : TruV K v H (tru d) := by
  cases p with
  | non => rfl
  | bl b => rfl
  | int i => rfl
  | str y => exact ⟨h, rfl⟩
  | lst s al =>
    refine Or.inl ⟨_, SqL.of (e _ _ s), ?_⟩
    have := dpa_len al
    show (!List.isEmpty _) = _
    rename_i xs ds
    cases xs <;> cases ds <;> first | rfl | simp at this
  | tup s al =>
    refine Or.inr (Or.inl ⟨_, Evl.ex_t e s, ?_⟩)
    have := dpa_len al
    show (!List.isEmpty _) = _
    rename_i xs ds
    cases xs <;> cases ds <;> first | rfl | simp at this
  | scr q s =>
    refine Or.inl ⟨_, e.seq s, ?_⟩
    subst q
    rename_i ns
    cases ns <;> rfl
theorem dt_tru (c : Cv M N sc X) (h : DE M X e ρ d) (ho : truOk d) (he : ∀ whole, isTrue e X.env whole = (do let v ← whole; standAt e.pos; holding [v] (truthy v)) := by intro _; rfl) : DT M X e ρ (tru d) :=
  dt_of (pt_truth pe_sem he) fun B F σ H I Q q => h B F σ H I _ fun v H' B' s I' p => ⟨tru d, by rw [c.eK]; exact tru_of I'.bh p ho, q H' B' s I'⟩
theorem dt_val (h : DE M X e ρ (.bool bb)) (he : ∀ whole, isTrue e X.env whole = (do let v ← whole; standAt e.pos; holding [v] (truthy v)) := by intro _; rfl) : DT M X e ρ bb :=
  dt_of (pt_val pe_sem he) fun B F σ H I Q q => h B F σ H I _ fun v H' B' s I' p => by
    cases p
    exact ⟨bb, rfl, q H' B' s I'⟩
theorem dt_not (h : DT M X a ρ b1) : DT M X (.UnaryOp .Not a pos) ρ (!b1) := dt_of (pt_not pt_sem) fun B F σ H I Q q => h B F σ H I _ fun H' B' s I' => q H' B' s I'
theorem dt_bool (h : DW M X e ρ bb) : DT M X e ρ bb := fun B F σ H I Q q pins s iv => h B F σ H I Q q _ pins s iv
theorem dw_and1 (h : DT M X a ρ b1) : DW M X (.BoolOp .And [a] pos) ρ b1 := dw_of (pw_and1 pt_sem) h
theorem dw_or1 (h : DT M X a ρ b1) : DW M X (.BoolOp .Or [a] pos) ρ b1 := dw_of (pw_or1 pt_sem) h
theorem dw_and (h : DT M X a ρ b1) (h2 : b1 = true → DW M X (.BoolOp .And (b :: es) pos) ρ b2) : DW M X (.BoolOp .And (a :: b :: es) pos) ρ (b1 && b2) := dw_of (pw_and pt_sem pw_sem) fun B F σ H I Q q => h B F σ H I _ fun H' B' s I' => by
  cases b1 with
  | true =>
    rw [if_pos rfl]
    exact h2 rfl B' F σ H' I' Q fun H2 B2 s2 I2 => q H2 B2 (s.trans s2) I2
  | false =>
    rw [if_neg Bool.false_ne_true]
    exact q H' B' s I'
theorem dw_or (h : DT M X a ρ b1) (h2 : b1 = false → DW M X (.BoolOp .Or (b :: es) pos) ρ b2) : DW M X (.BoolOp .Or (a :: b :: es) pos) ρ (b1 || b2) := dw_of (pw_or pt_sem pw_sem) fun B F σ H I Q q => h B F σ H I _ fun H' B' s I' => by
  cases b1 with
  | false =>
    rw [if_neg Bool.false_ne_true]
    exact h2 rfl B' F σ H' I' Q fun H2 B2 s2 I2 => q H2 B2 (s.trans s2) I2
  | true =>
    rw [if_pos rfl]
    exact q H' B' s I'
/-- as values, of bools -/
theorem de_one {op} (h : DE M X a ρ d) : DE M X (.BoolOp op [a] pos) ρ d := de_of (pe_one pe_sem) h
theorem de_and (h : DE M X a ρ (.bool b1)) (h2 : b1 = true → DE M X (.BoolOp .And (b :: es) pos) ρ (.bool b2)) : DE M X (.BoolOp .And (a :: b :: es) pos) ρ (.bool (b1 && b2)) := de_of (pe_and pe_sem pe_sem) fun B F σ H I Q q => h B F σ H I _ fun v H' B' s I' p => by
  cases p
  refine ⟨b1, rfl, ?_⟩
  cases b1 with
  | true =>
    rw [if_pos rfl]
    exact h2 rfl B' F σ H' I' Q fun v H2 B2 s2 I2 p2 => q v H2 B2 (s.trans s2) I2 p2
  | false =>
    rw [if_neg Bool.false_ne_true]
    exact q _ H' B' s I' (.bl false)
theorem de_or (h : DE M X a ρ (.bool b1)) (h2 : b1 = false → DE M X (.BoolOp .Or (b :: es) pos) ρ (.bool b2)) : DE M X (.BoolOp .Or (a :: b :: es) pos) ρ (.bool (b1 || b2)) := de_of (pe_or pe_sem pe_sem) fun B F σ H I Q q => h B F σ H I _ fun v H' B' s I' p => by
  cases p
  refine ⟨b1, rfl, ?_⟩
  cases b1 with
  | false =>
    rw [if_neg Bool.false_ne_true]
    exact h2 rfl B' F σ H' I' Q fun v H2 B2 s2 I2 p2 => q v H2 B2 (s.trans s2) I2 p2
  | true =>
    rw [if_pos rfl]
    exact q _ H' B' s I' (.bl true)
theorem de_not (h : DE M X a ρ (.bool b1)) : DE M X (.UnaryOp .Not a pos) ρ (.bool (!b1)) := de_of (pe_not pe_sem) fun B F σ H I Q q => h B F σ H I _ fun v H' B' s I' p => by
  cases p
  exact ⟨b1, rfl, q _ H' B' s I' (.bl _)⟩
theorem de_neg (h : DE M X a ρ (.int m)) : DE M X (.UnaryOp .USub a pos) ρ (.int (-m)) := de_of (pe_un un_neg pe_sem) fun B F σ H I Q q => h B F σ H I _ fun v H' B' s I' p => by
  cases p
  exact ⟨m, rfl, q _ H' B' s I' (.int _)⟩
theorem de_if (h : DT M X e ρ bb) (h1 : bb = true → DE M X a ρ d) (h2 : bb = false → DE M X b ρ d) : DE M X (.IfExp e a b pos) ρ d := de_of (pe_ifExp pt_sem pe_sem pe_sem) fun B F σ H I Q q => h B F σ H I _ fun H' B' s I' => by
  cases bb with
  | true =>
    rw [if_pos rfl]
    exact h1 rfl B' F σ H' I' Q fun v H2 B2 s2 I2 p => q v H2 B2 (s.trans s2) I2 p
  | false =>
    rw [if_neg Bool.false_ne_true]
    exact h2 rfl B' F σ H' I' Q fun v H2 B2 s2 I2 p => q v H2 B2 (s.trans s2) I2 p

/-! ### arguments, displays -/
theorem da_nil : DA M X [] ρ [] := da_of pa_nil fun B F σ H I Q q => q [] H B (Same.refl B) I .nil
theorem da_cons (h : DE M X e ρ d) (hr : DA M X es ρ ds) (hs : starEach (e :: es) X.env = (false, eval e X.env) :: starEach es X.env := by rfl) : DA M X (e :: es) ρ (d :: ds) :=
  da_of (pa_cons pe_sem pa_sem hs) fun B F σ H I Q q => h B F σ H I _ fun v H1 B1 s1 I1 p1 => hr B1 F σ H1 I1 _ fun vs H2 B2 s2 I2 p2 => q _ H2 B2 (s1.trans s2) I2 (.cons (dp_mono s2 p1) p2)
theorem de_tup {x1} (h : DA M X es ρ ds) (hl : ds.length ≤ 100000) : DE M X (.Tuple es x1 pos) ρ (.tuple ds) := de_of (pe_tup pa_sem) fun B F σ H I Q q => h B F σ H I _ fun vs H' B' s I' p =>
  ⟨by rw [dpa_len p]; exact Evl.sz_of hl, fun a ha => by
    obtain ⟨s2, I2⟩ := I'.new (o := .tup vs) ha
    exact q _ _ _ (s.trans s2) I2 (.tup (.inl (.inl upd_same)) (dpa_mono s2 p))⟩
theorem dn_lst (h : DA M X es ρ ds) (hl : ds.length ≤ 100000) : DN M X (.List es pos) ρ ds := dn_of (pe_lst pa_sem) fun B F σ H I Q q => h B F σ H I _ fun vs H' B' s I' p =>
  ⟨by rw [dpa_len p]; exact Evl.sz_of hl, fun a ha => q a vs _ B' s (I'.fh.free ha) (I'.lay ha) p⟩
theorem de_lst (h : DA M X es ρ ds) (hl : ds.length ≤ 100000) : DE M X (.List es pos) ρ (.list ds) := (dn_lst h hl).de

/-! ### calls of built-ins -/
def Cl (M : Md) (X : Cx) (f : Value) (ds : List PyData) (d : PyData) : Prop := ∃ r, CallR X f r ∧ ∀ B F σ H ρ vs, EnvB M.K B F H σ ρ → DqAll M.K B vs ds → ∀ Q : VK, (∀ v H' B', Same B B' → EnvB M.K B' F H' σ ρ → Dq M.K B' v d → Q v H') → r vs H Q
theorem de_callB {id : String} {q : Pos} (c : Cv M N sc X) (hm : M.mg x = none) (hv : bootBuiltins x = some (.builtin id)) (ha : DA M X (e :: es) ρ ds) (hc : Cl M X (.builtin id) ds d)
    (he : starEach (e :: es) X.env = (false, eval e X.env) :: starEach es X.env := by rfl) (hpl : (backTo pos (starEach es X.env)).any (·.1) = false := by rfl) (hg : (glB sc x && okN x) = true := by decide +kernel) : DE M X (.Call (.Name x q) (e :: es) [] pos) ρ d := by
  rw [Bool.and_eq_true] at hg
  obtain ⟨r, hr, hq⟩ := hc
  exact de_of (pe_callB hr (c.gl hg.1) (by rw [c.eg]; exact hm) hv pa_sem (okN3 hg.2) (okN1 hg.2) he hpl) fun B F σ H I Q q => ha B F σ H I _ fun vs H' B' s I' p =>
    hq B' F σ H' ρ vs I' p Q fun v H2 B2 s2 I2 p2 => q v H2 B2 (s.trans s2) I2 p2
theorem de_callTy {T : String} {q : Pos} (c : Cv M N sc X) (hm : M.mg x = none) (hv : bootBuiltins x = some (.type T)) (ha : DA M X (e :: es) ρ ds) (hc : Cl M X (.type T) ds d)
    (he : starEach (e :: es) X.env = (false, eval e X.env) :: starEach es X.env := by rfl) (hpl : (backTo pos (starEach es X.env)).any (·.1) = false := by rfl) (hg : (glB sc x && okN x) = true := by decide +kernel) : DE M X (.Call (.Name x q) (e :: es) [] pos) ρ d := by
  rw [Bool.and_eq_true] at hg
  obtain ⟨r, hr, hq⟩ := hc
  exact de_of (pe_callTy hr (c.gl hg.1) (by rw [c.eg]; exact hm) hv pa_sem (okN3 hg.2) (okN1 hg.2) he hpl) fun B F σ H I Q q => ha B F σ H I _ fun vs H' B' s I' p =>
    hq B' F σ H' ρ vs I' p Q fun v H2 B2 s2 I2 p2 => q v H2 B2 (s.trans s2) I2 p2
theorem inv_all1 {K : PySem.W.Frag} {B : Hp} {vs : List V} (h : DqAll K B vs [d]) : ∃ v, vs = [v] ∧ Dq K B v d := by
  cases h with
  | cons h t => cases t; exact ⟨_, rfl, h⟩
theorem inv_all2 {K : PySem.W.Frag} {B : Hp} {vs : List V} (h : DqAll K B vs [d1, d2]) : ∃ v w, vs = [v, w] ∧ Dq K B v d1 ∧ Dq K B w d2 := by
  cases h with
  | cons h t =>
    cases t with
    | cons h2 t => cases t; exact ⟨_, _, rfl, h, h2⟩
theorem cl_abs : Cl M X (.builtin "abs") [.int m] (.int (if m < 0 then -m else m)) := ⟨_, call_abs, fun B F σ H ρ vs I p Q q => by
  obtain ⟨v, rfl, p1⟩ := inv_all1 p
  cases p1
  exact ⟨m, rfl, q _ _ _ (Same.refl B) I (.int _)⟩⟩
theorem cl_max2 (hc : X.calm = true) : Cl M X (.builtin "max") [.int m, .int n] (.int (if n > m then n else m)) := ⟨_, call_max2 hc, fun B F σ H ρ vs I p Q q => by
  obtain ⟨v, w, rfl, p1, p2⟩ := inv_all2 p
  cases p1; cases p2
  exact ⟨m, n, rfl, q _ _ _ (Same.refl B) I (.int _)⟩⟩
theorem cl_min2 (hc : X.calm = true) : Cl M X (.builtin "min") [.int m, .int n] (.int (if n < m then n else m)) := ⟨_, call_min2 hc, fun B F σ H ρ vs I p Q q => by
  obtain ⟨v, w, rfl, p1, p2⟩ := inv_all2 p
  cases p1; cases p2
  exact ⟨m, n, rfl, q _ _ _ (Same.refl B) I (.int _)⟩⟩
theorem cl_len_str {y : Str} (h : y.length ≤ sizeLine) : Cl M X (.builtin "len") [.str y] (.int y.length) := ⟨_, call_len_str, fun B F σ H ρ vs I p Q q => by
  obtain ⟨v, rfl, p1⟩ := inv_all1 p
  cases p1
  exact ⟨y, rfl, h, q _ _ _ (Same.refl B) I (.int _)⟩⟩
theorem cl_len_lst (c : Cv M N sc X) : Cl M X (.builtin "len") [.list ds] (.int ds.length) := ⟨_, call_len_seq, fun B F σ H ρ vs I p Q q => by
  obtain ⟨v, rfl, p1⟩ := inv_all1 p
  cases p1 with
  | lst s al => exact ⟨_, _, rfl, .inl (SqL.of (I.bh _ _ s)), by rw [dpa_len al]; exact q _ _ _ (Same.refl B) I (.int _)⟩⟩
theorem cl_len_tup (c : Cv M N sc X) : Cl M X (.builtin "len") [.tuple ds] (.int ds.length) := ⟨_, call_len_seq, fun B F σ H ρ vs I p Q q => by
  obtain ⟨v, rfl, p1⟩ := inv_all1 p
  cases p1 with
  | tup s al => exact ⟨_, _, rfl, .inr (by rw [c.eK]; exact Evl.ex_t I.bh s), by rw [dpa_len al]; exact q _ _ _ (Same.refl B) I (.int _)⟩⟩
theorem cl_len_scr {ns : List Int} (c : Cv M N sc X) : Cl M X (.builtin "len") [scrD ns] (.int ns.length) := ⟨_, call_len_seq, fun B F σ H ρ vs I p Q q => by
  obtain ⟨v, rfl, p1⟩ := inv_all1 p
  cases p1 with
  | scr e s =>
    rename_i a ns'
    have e2 : ns.length = ns'.length := by have := congrArg List.length e; rw [List.length_map, List.length_map] at this; exact this
    refine ⟨_, _, rfl, .inl (by rw [c.eK]; exact I.bh.seq s), ?_⟩
    rw [List.length_map, ← e2]
    exact q _ _ _ (Same.refl B) I (.int _)⟩
theorem cl_tuple_lst (c : Cv M N sc X) : Cl M X (.type "tuple") [.list ds] (.tuple ds) := ⟨_, call_tuple_of, fun B F σ H ρ vs I p Q q => by
  obtain ⟨v, rfl, p1⟩ := inv_all1 p
  cases p1 with
  | lst s al => exact ⟨_, _, rfl, .inl ⟨SqL.of (I.bh _ _ s), fun a ha => by
      obtain ⟨s2, I2⟩ := I.new (o := .tup _) ha
      exact q _ _ _ s2 I2 (.tup (.inl (.inl upd_same)) (dpa_mono s2 al))⟩⟩⟩
theorem cl_tuple_tup (c : Cv M N sc X) : Cl M X (.type "tuple") [.tuple ds] (.tuple ds) := ⟨_, call_tuple_of, fun B F σ H ρ vs I p Q q => by
  obtain ⟨v, rfl, p1⟩ := inv_all1 p
  cases p1 with
  | tup s al => exact ⟨_, _, rfl, .inr ⟨by rw [c.eK]; exact Evl.ex_t I.bh s, q _ _ _ (Same.refl B) I (.tup s al)⟩⟩⟩
theorem cl_list_lst (c : Cv M N sc X) : Cl M X (.type "list") [.list ds] (.list ds) := ⟨_, call_list_of, fun B F σ H ρ vs I p Q q => by
  obtain ⟨v, rfl, p1⟩ := inv_all1 p
  cases p1 with
  | lst s al => exact ⟨_, _, rfl, .inl (SqL.of (I.bh _ _ s)), fun a ha => by
      obtain ⟨s2, I2⟩ := I.new (o := .lst _) ha
      exact q _ _ _ s2 I2 (.lst upd_same (dpa_mono s2 al))⟩⟩
theorem cl_list_tup (c : Cv M N sc X) : Cl M X (.type "list") [.tuple ds] (.list ds) := ⟨_, call_list_of, fun B F σ H ρ vs I p Q q => by
  obtain ⟨v, rfl, p1⟩ := inv_all1 p
  cases p1 with
  | tup s al => exact ⟨_, _, rfl, .inr (by rw [c.eK]; exact Evl.ex_t I.bh s), fun a ha => by
      obtain ⟨s2, I2⟩ := I.new (o := .lst _) ha
      exact q _ _ _ s2 I2 (.lst upd_same (dpa_mono s2 al))⟩⟩

/-! ### subscripts -/
def Ix (M : Md) (X : Cx) (d1 d2 d : PyData) : Prop := ∃ r : R2, IxR X r ∧ ∀ B F σ H ρ v1 v2, EnvB M.K B F H σ ρ → Dq M.K B v1 d1 → Dq M.K B v2 d2 → ∀ Q : VK, (∀ v H' B', Same B B' → EnvB M.K B' F H' σ ρ → Dq M.K B' v d → Q v H') → r v1 v2 H Q
theorem de_ix (ha : DE M X a ρ d1) (hb : DE M X b ρ d2) (ho : Ix M X d1 d2 d) (hs : PlainIx b := by intro _ _; rfl) : DE M X (.Subscript a b pos) ρ d := by
  obtain ⟨r, hr, hq⟩ := ho
  refine de_of (pe_ix hr pe_sem pe_sem hs) fun B F σ H I Q q => run2 (R := fun v1 v2 H' => r v1 v2 H' Q) ha hb I fun v1 v2 H' B' s I' p1 p2 => ?_
  exact hq B' F σ H' ρ v1 v2 I' p1 p2 Q fun v H2 B2 s2 I2 p3 => q v H2 B2 (s.trans s2) I2 p3
theorem atI_dp {K : PySem.W.Frag} {B : Hp} {vs : List V} (al : DqAll K B vs ds) (h : atI ds n = some d) : ∃ v, atI vs n = some v ∧ Dq K B v d := by
  unfold atI at h ⊢
  rw [dpa_len al]
  cases hj : ixN ds.length n with
  | none => rw [hj] at h; cases h
  | some j =>
    rw [hj] at h
    exact dpa_getd al j d h
theorem ix_t (c : Cv M N sc X) (h : atI ds n = some d) : Ix M X (.tuple ds) (.int n) d := ⟨_, ix_tup, fun B F σ H ρ u1 u2 I p1 p2 Q q => by
  cases p2
  cases p1 with
  | tup s al =>
    obtain ⟨v, hv, hd⟩ := atI_dp al h
    exact ⟨_, _, n, v, rfl, rfl, by rw [c.eK]; exact Evl.ex_t I.bh s, hv, q _ _ _ (Same.refl B) I hd⟩⟩
theorem ix_l (c : Cv M N sc X) (h : atI ds n = some d) : Ix M X (.list ds) (.int n) d := ⟨_, ix_list, fun B F σ H ρ u1 u2 I p1 p2 Q q => by
  cases p2
  cases p1 with
  | lst s al =>
    obtain ⟨v, hv, hd⟩ := atI_dp al h
    exact ⟨_, _, n, v, rfl, rfl, SqL.of (I.bh _ _ s), hv, q _ _ _ (Same.refl B) I hd⟩⟩
theorem scr_inj : ∀ {ns ms : List Int}, (ns.map fun n => ((PyData.int n, PyData.none) : PyData × PyData)) = (ms.map fun n => (PyData.int n, PyData.none)) → ns = ms
  | [], [], _ => rfl
  | [], _ :: _, h => by cases h
  | _ :: _, [], h => by cases h
  | a :: r, b :: r', h => by
    rw [List.map_cons, List.map_cons] at h
    injection h with h1 h2
    injection h1 with h1 _
    injection h1 with h1
    rw [h1, scr_inj h2]
theorem ix_scr {ns : List Int} {z : Int} (c : Cv M N sc X) (h : atI ns n = some z) : Ix M X (scrD ns) (.int n) (.int z) := ⟨_, ix_list, fun B F σ H ρ u1 u2 I p1 p2 Q q => by
  cases p2
  cases p1 with
  | scr e s =>
    have e2 := scr_inj e
    subst e2
    refine ⟨_, _, n, .int z, rfl, rfl, by rw [c.eK]; exact I.bh.seq s, ?_, q _ _ _ (Same.refl B) I (.int z)⟩
    unfold atI at h ⊢
    rw [List.length_map]
    cases hj : ixN ns.length n with
    | none => rw [hj] at h; cases h
    | some j =>
      rw [hj] at h
      show (ns.map V.int)[j]? = some (.int z)
      rw [List.getElem?_map, show ns[j]? = some z from h]
      rfl⟩
end
end Dl

namespace Dl
open PySem PySem.Spec PyProof.Rows L2

theorem le_eq {x y : Sl} {a b : List Sl} (e : x = y) (h : Le a b) : Le (x :: a) (y :: b) := e ▸ le_same h
/-! ### places -/
inductive Get {α : Type} : Nat → α → List α → Prop
  | z {s : α} {r : List α} : Get 0 s (s :: r)
  | s {i : Nat} {s x : α} {r : List α} (h : Get i s r) : Get (i + 1) s (x :: r)
theorem Get.at {α : Type} {i : Nat} {s : α} {r : List α} (h : Get i s r) : r[i]? = some s := by
  induction h with
  | z => rfl
  | s h ih => simpa using ih
inductive SetAt : Nat → Sl → List Sl → List Sl → Prop
  | z {s x : Sl} {r : List Sl} : SetAt 0 s (x :: r) (s :: r)
  | s {i : Nat} {s x : Sl} {r r' : List Sl} (h : SetAt i s r r') : SetAt (i + 1) s (x :: r) (x :: r')
theorem SetAt.eq {i : Nat} {s : Sl} {r r' : List Sl} (h : SetAt i s r r') : r.set i s = r' ∧ i < r.length := by
  induction h with
  | z => exact ⟨rfl, by simp⟩
  | s h ih => exact ⟨by rw [List.set_cons_succ, ih.1], by rw [List.length_cons]; have := ih.2; omega⟩
section
variable {α : Type} {s x0 x1 x2 x3 x4 x5 x6 x7 x8 x9 xa xb xc xd xe xf xg : α} {r : List α}
theorem G0 : Get 0 s (s :: r) := .z
theorem G1 : Get 1 s (x0 :: s :: r) := .s G0
theorem G2 : Get 2 s (x0 :: x1 :: s :: r) := .s G1
theorem G3 : Get 3 s (x0 :: x1 :: x2 :: s :: r) := .s G2
theorem G4 : Get 4 s (x0 :: x1 :: x2 :: x3 :: s :: r) := .s G3
theorem G5 : Get 5 s (x0 :: x1 :: x2 :: x3 :: x4 :: s :: r) := .s G4
theorem G6 : Get 6 s (x0 :: x1 :: x2 :: x3 :: x4 :: x5 :: s :: r) := .s G5
theorem G7 : Get 7 s (x0 :: x1 :: x2 :: x3 :: x4 :: x5 :: x6 :: s :: r) := .s G6
theorem G8 : Get 8 s (x0 :: x1 :: x2 :: x3 :: x4 :: x5 :: x6 :: x7 :: s :: r) := .s G7
theorem G9 : Get 9 s (x0 :: x1 :: x2 :: x3 :: x4 :: x5 :: x6 :: x7 :: x8 :: s :: r) := .s G8
theorem G10 : Get 10 s (x0 :: x1 :: x2 :: x3 :: x4 :: x5 :: x6 :: x7 :: x8 :: x9 :: s :: r) := .s G9
theorem G11 : Get 11 s (x0 :: x1 :: x2 :: x3 :: x4 :: x5 :: x6 :: x7 :: x8 :: x9 :: xa :: s :: r) := .s G10
theorem G12 : Get 12 s (x0 :: x1 :: x2 :: x3 :: x4 :: x5 :: x6 :: x7 :: x8 :: x9 :: xa :: xb :: s :: r) := .s G11
theorem G13 : Get 13 s (x0 :: x1 :: x2 :: x3 :: x4 :: x5 :: x6 :: x7 :: x8 :: x9 :: xa :: xb :: xc :: s :: r) := .s G12
theorem G14 : Get 14 s (x0 :: x1 :: x2 :: x3 :: x4 :: x5 :: x6 :: x7 :: x8 :: x9 :: xa :: xb :: xc :: xd :: s :: r) := .s G13
theorem G15 : Get 15 s (x0 :: x1 :: x2 :: x3 :: x4 :: x5 :: x6 :: x7 :: x8 :: x9 :: xa :: xb :: xc :: xd :: xe :: s :: r) := .s G14
theorem G16 : Get 16 s (x0 :: x1 :: x2 :: x3 :: x4 :: x5 :: x6 :: x7 :: x8 :: x9 :: xa :: xb :: xc :: xd :: xe :: xf :: s :: r) := .s G15
theorem G17 : Get 17 s (x0 :: x1 :: x2 :: x3 :: x4 :: x5 :: x6 :: x7 :: x8 :: x9 :: xa :: xb :: xc :: xd :: xe :: xf :: xg :: s :: r) := .s G16
end
section
variable {s x x0 x1 x2 x3 x4 x5 x6 x7 x8 x9 xa xb xc xd xe xf xg : Sl} {r : List Sl}
theorem T0 : SetAt 0 s (x :: r) (s :: r) := .z
theorem T1 : SetAt 1 s (x0 :: x :: r) (x0 :: s :: r) := .s T0
theorem T2 : SetAt 2 s (x0 :: x1 :: x :: r) (x0 :: x1 :: s :: r) := .s T1
theorem T3 : SetAt 3 s (x0 :: x1 :: x2 :: x :: r) (x0 :: x1 :: x2 :: s :: r) := .s T2
theorem T4 : SetAt 4 s (x0 :: x1 :: x2 :: x3 :: x :: r) (x0 :: x1 :: x2 :: x3 :: s :: r) := .s T3
theorem T5 : SetAt 5 s (x0 :: x1 :: x2 :: x3 :: x4 :: x :: r) (x0 :: x1 :: x2 :: x3 :: x4 :: s :: r) := .s T4
theorem T6 : SetAt 6 s (x0 :: x1 :: x2 :: x3 :: x4 :: x5 :: x :: r) (x0 :: x1 :: x2 :: x3 :: x4 :: x5 :: s :: r) := .s T5
theorem T7 : SetAt 7 s (x0 :: x1 :: x2 :: x3 :: x4 :: x5 :: x6 :: x :: r) (x0 :: x1 :: x2 :: x3 :: x4 :: x5 :: x6 :: s :: r) := .s T6
theorem T8 : SetAt 8 s (x0 :: x1 :: x2 :: x3 :: x4 :: x5 :: x6 :: x7 :: x :: r) (x0 :: x1 :: x2 :: x3 :: x4 :: x5 :: x6 :: x7 :: s :: r) := .s T7
theorem T9 : SetAt 9 s (x0 :: x1 :: x2 :: x3 :: x4 :: x5 :: x6 :: x7 :: x8 :: x :: r) (x0 :: x1 :: x2 :: x3 :: x4 :: x5 :: x6 :: x7 :: x8 :: s :: r) := .s T8
theorem T10 : SetAt 10 s (x0 :: x1 :: x2 :: x3 :: x4 :: x5 :: x6 :: x7 :: x8 :: x9 :: x :: r) (x0 :: x1 :: x2 :: x3 :: x4 :: x5 :: x6 :: x7 :: x8 :: x9 :: s :: r) := .s T9
theorem T11 : SetAt 11 s (x0 :: x1 :: x2 :: x3 :: x4 :: x5 :: x6 :: x7 :: x8 :: x9 :: xa :: x :: r) (x0 :: x1 :: x2 :: x3 :: x4 :: x5 :: x6 :: x7 :: x8 :: x9 :: xa :: s :: r) := .s T10
theorem T12 : SetAt 12 s (x0 :: x1 :: x2 :: x3 :: x4 :: x5 :: x6 :: x7 :: x8 :: x9 :: xa :: xb :: x :: r) (x0 :: x1 :: x2 :: x3 :: x4 :: x5 :: x6 :: x7 :: x8 :: x9 :: xa :: xb :: s :: r) := .s T11
theorem T13 : SetAt 13 s (x0 :: x1 :: x2 :: x3 :: x4 :: x5 :: x6 :: x7 :: x8 :: x9 :: xa :: xb :: xc :: x :: r) (x0 :: x1 :: x2 :: x3 :: x4 :: x5 :: x6 :: x7 :: x8 :: x9 :: xa :: xb :: xc :: s :: r) := .s T12
theorem T14 : SetAt 14 s (x0 :: x1 :: x2 :: x3 :: x4 :: x5 :: x6 :: x7 :: x8 :: x9 :: xa :: xb :: xc :: xd :: x :: r) (x0 :: x1 :: x2 :: x3 :: x4 :: x5 :: x6 :: x7 :: x8 :: x9 :: xa :: xb :: xc :: xd :: s :: r) := .s T13
theorem T15 : SetAt 15 s (x0 :: x1 :: x2 :: x3 :: x4 :: x5 :: x6 :: x7 :: x8 :: x9 :: xa :: xb :: xc :: xd :: xe :: x :: r) (x0 :: x1 :: x2 :: x3 :: x4 :: x5 :: x6 :: x7 :: x8 :: x9 :: xa :: xb :: xc :: xd :: xe :: s :: r) := .s T14
theorem T16 : SetAt 16 s (x0 :: x1 :: x2 :: x3 :: x4 :: x5 :: x6 :: x7 :: x8 :: x9 :: xa :: xb :: xc :: xd :: xe :: xf :: x :: r) (x0 :: x1 :: x2 :: x3 :: x4 :: x5 :: x6 :: x7 :: x8 :: x9 :: xa :: xb :: xc :: xd :: xe :: xf :: s :: r) := .s T15
theorem T17 : SetAt 17 s (x0 :: x1 :: x2 :: x3 :: x4 :: x5 :: x6 :: x7 :: x8 :: x9 :: xa :: xb :: xc :: xd :: xe :: xf :: xg :: x :: r) (x0 :: x1 :: x2 :: x3 :: x4 :: x5 :: x6 :: x7 :: x8 :: x9 :: xa :: xb :: xc :: xd :: xe :: xf :: xg :: s :: r) := .s T16
end
/-! ### targets -/
inductive Pat where
  | nm (j : Nat)
  | tp (js : List Nat)
def gL : List Nat → TGs
  | [] => gNil
  | j :: js => gCons (gName j) (gL js)
def gPat (K : PySem.W.Frag) : Pat → TG
  | .nm j => gName j
  | .tp js => gTup K js.length (gL js)
/-- what a target makes of the slots -/
inductive PSets : List Nat → List PyData → List Sl → List Sl → Prop
  | nil {ρ : List Sl} : PSets [] [] ρ ρ
  | cons {j : Nat} {js : List Nat} {d : PyData} {ds : List PyData} {ρ ρ1 ρ2 : List Sl} (h : SetAt j (.v d) ρ ρ1) (t : PSets js ds ρ1 ρ2) : PSets (j :: js) (d :: ds) ρ ρ2
inductive PSet1 : Pat → PyData → List Sl → List Sl → Prop
  | nm {j : Nat} {d : PyData} {ρ ρ' : List Sl} (h : SetAt j (.v d) ρ ρ') : PSet1 (.nm j) d ρ ρ'
  | tp {js : List Nat} {ds : List PyData} {ρ ρ' : List Sl} (h : PSets js ds ρ ρ') : PSet1 (.tp js) (.tuple ds) ρ ρ'
def Pat.slots : Pat → List Nat
  | .nm j => [j]
  | .tp js => js
section
variable {M : Md} {X : Cx} {W : WX} {N : List Str} {sc : Sco} {k : Nat} {ρ ρ' ρ'' : List Sl} {d d1 d2 d3 : PyData} {ds : List PyData} {e a b c' : Expr} {es : List Expr} {pos p2 p3 p4 p5 : Pos} {x y z : Str} {bb b1 b2 : Bool} {i j l : Nat} {nx : List Sl → Prop} {R : REnds}
theorem wipe_set {σ : L2.St} {o : Option V} : ∀ {vs : List Nat}, j ∈ vs → wipe (σ.set j o) vs = wipe σ vs
  | v :: vs, h => by
    unfold wipe
    by_cases hj : j ∈ vs
    · rw [wipe_set hj]
    · have e : j = v := by
        rcases List.mem_cons.mp h with h | h
        · exact h
        · exact absurd h hj
      subst e
      have q : ∀ (us : List Nat), j ∉ us → (wipe (σ.set j o) us) = (wipe σ us).set j o := fun us => by
        induction us with
        | nil => intro _; rfl
        | cons u us ih =>
          intro hn
          have h1 : j ≠ u := fun z => hn (by rw [z]; exact List.mem_cons_self)
          have h2 : j ∉ us := fun z => hn (List.mem_cons_of_mem _ z)
          unfold wipe
          rw [ih h2, List.set_comm _ _ h1]
      rw [q vs hj, List.set_set]
theorem psets_len {js : List Nat} (h : PSets js ds ρ ρ') : ds.length = js.length := by
  induction h with
  | nil => rfl
  | cons h t ih => rw [List.length_cons, List.length_cons, ih]
theorem gL_run {K : PySem.W.Frag} {B F H : Hp} {js : List Nat} (h : PSets js ds ρ ρ') : ∀ (xs : List V) (σ : L2.St), EnvB K B F H σ ρ → DqAll K B xs ds →
    ∀ Q : L2.St → Hp → Prop, (∀ σ', EnvB K B F H σ' ρ' → (∀ vs, (∀ j ∈ js, j ∈ vs) → wipe σ' vs = wipe σ vs) → Q σ' H) → gL js xs σ H Q := by
  induction h with
  | nil =>
    intro xs σ I al Q q
    cases al
    exact ⟨rfl, q σ I fun _ _ => rfl⟩
  | cons h t ih =>
    intro xs σ I al Q q
    rename_i j js d ds ρ ρ1 ρ2
    cases al with
    | cons hd tl =>
      rename_i v vs
      refine ⟨v, vs, rfl, ?_⟩
      have I1 := I.setv j h.eq.2 hd
      rw [h.eq.1] at I1
      refine ih vs _ I1 tl Q fun σ' I' hw => q σ' I' fun us hu => ?_
      rw [hw us fun i hi => hu i (List.mem_cons_of_mem _ hi), wipe_set (hu j List.mem_cons_self)]
theorem gPat_run {K : PySem.W.Frag} {B F H : Hp} {σ : L2.St} {p : Pat} {v : V} (hp : PSet1 p d ρ ρ') (I : EnvB K B F H σ ρ) (hd : Dq K B v d) {Q : L2.St → Hp → Prop} (q : ∀ σ', EnvB K B F H σ' ρ' → (∀ vs, (∀ j ∈ p.slots, j ∈ vs) → wipe σ' vs = wipe σ vs) → Q σ' H) : gPat K p v σ H Q := by
  cases hp with
  | nm h =>
    have I1 := I.setv _ h.eq.2 hd
    rw [h.eq.1] at I1
    exact q _ I1 fun vs hv => wipe_set (hv _ List.mem_cons_self)
  | tp h =>
    cases hd with
    | tup s al =>
      refine ⟨_, _, rfl, Evl.ex_t I.bh s, by rw [dpa_len al]; exact psets_len h, ?_⟩
      exact gL_run h _ σ I al Q q
theorem pat_nm {K : PySem.W.Frag} (c : Cv M N sc X) {j : Nat} (hj : Get j x N) (hl : locB sc x = true := by decide +kernel) : PG X (.Name x pos) (gPat K (.nm j)) :=
  pg_name (by rw [c.hN]; exact c.nd) (by rw [c.hN]; exact hj.at) (c.loc hl).1 (c.loc hl).2
theorem pat_tp2 {kk : Nat} (c : Cn M k N sc X W) {j1 j2 : Nat} (h1 : Get j1 x N) (h2 : Get j2 y N) (hl : (locB sc x && locB sc y) = true := by decide +kernel) : PG X (.Tuple [.Name x p2, .Name y p3] kk pos) (gPat M.K (.tp [j1, j2])) := by
  rw [Bool.and_eq_true] at hl
  rw [← c.eK]
  exact pg_tup c.calm (pgs_cons (pat_nm (K := X.K) c.toCv h1 hl.1) (pgs_cons (pat_nm (K := X.K) c.toCv h2 hl.2) pgs_nil))
theorem pat_tp3 {kk : Nat} (c : Cn M k N sc X W) {j1 j2 j3 : Nat} (h1 : Get j1 x N) (h2 : Get j2 y N) (h3 : Get j3 z N) (hl : (locB sc x && locB sc y && locB sc z) = true := by decide +kernel) : PG X (.Tuple [.Name x p2, .Name y p3, .Name z p4] kk pos) (gPat M.K (.tp [j1, j2, j3])) := by
  rw [Bool.and_eq_true, Bool.and_eq_true] at hl
  rw [← c.eK]
  exact pg_tup c.calm (pgs_cons (pat_nm (K := X.K) c.toCv h1 hl.1.1) (pgs_cons (pat_nm (K := X.K) c.toCv h2 hl.1.2) (pgs_cons (pat_nm (K := X.K) c.toCv h3 hl.2) pgs_nil)))
theorem pat_tp4 {kk : Nat} {u : Str} (c : Cn M k N sc X W) {j1 j2 j3 j4 : Nat} (h1 : Get j1 x N) (h2 : Get j2 y N) (h3 : Get j3 z N) (h4 : Get j4 u N) (hl : (locB sc x && locB sc y && locB sc z && locB sc u) = true := by decide +kernel) : PG X (.Tuple [.Name x p2, .Name y p3, .Name z p4, .Name u p5] kk pos) (gPat M.K (.tp [j1, j2, j3, j4])) := by
  rw [Bool.and_eq_true, Bool.and_eq_true, Bool.and_eq_true] at hl
  rw [← c.eK]
  exact pg_tup c.calm (pgs_cons (pat_nm (K := X.K) c.toCv h1 hl.1.1.1) (pgs_cons (pat_nm (K := X.K) c.toCv h2 hl.1.1.2) (pgs_cons (pat_nm (K := X.K) c.toCv h3 hl.1.2) (pgs_cons (pat_nm (K := X.K) c.toCv h4 hl.2) pgs_nil))))

theorem dv (c : Cv M N sc X) (hi : Get i x N) (hd : Get i (.v d) ρ) (hv : (visB sc x && okN x) = true := by decide +kernel) : DE M X (.Name x pos) ρ d := de_var c i hi.at hd.at hv
theorem de_ite (h : DT M X e ρ bb) (h1 : bb = true → DE M X a ρ d1) (h2 : bb = false → DE M X b ρ d2) : DE M X (.IfExp e a b pos) ρ (if bb = true then d1 else d2) := by
  cases bb with
  | true => exact de_if h (fun _ => h1 rfl) (fun z => by cases z)
  | false => exact de_if h (fun z => by cases z) (fun _ => h2 rfl)
theorem de_iteI {m n : Int} (h : DT M X e ρ bb) (h1 : bb = true → DE M X a ρ (.int m)) (h2 : bb = false → DE M X b ρ (.int n)) : DE M X (.IfExp e a b pos) ρ (.int (if bb = true then m else n)) := by
  cases bb with
  | true => exact de_if h (fun _ => h1 rfl) (fun z => by cases z)
  | false => exact de_if h (fun z => by cases z) (fun _ => h2 rfl)
theorem de_iteS {m n : Str} (h : DT M X e ρ bb) (h1 : bb = true → DE M X a ρ (.str m)) (h2 : bb = false → DE M X b ρ (.str n)) : DE M X (.IfExp e a b pos) ρ (.str (if bb = true then m else n)) := by
  cases bb with
  | true => exact de_if h (fun _ => h1 rfl) (fun z => by cases z)
  | false => exact de_if h (fun z => by cases z) (fun _ => h2 rfl)
theorem atD_of {α : Type} {xs : List α} {z : Int} {j : Nat} {v : α} (e : z = (j : Int)) (h : xs[j]? = some v) : atI xs z = some v := by
  subst e
  have hj := (List.getElem?_eq_some_iff.mp h).1
  unfold atI
  rw [Evl.ixN_nat hj]
  exact h
/-! ### blocks -/
theorem db_nil (h : ∃ ρ', Le ρ' ρ ∧ nx ρ') : DB M X W [] ρ nx R := db_of pss_nil fun B F σ H I E f => by
  obtain ⟨ρ', l, q⟩ := h
  exact f.nx ρ' σ H B q (Same.refl B) (I.le l)
theorem db_end (h : nx ρ) : DB M X W [] ρ nx R := db_nil ⟨ρ, Le.refl ρ, h⟩
theorem db_cons {st : Stmt} {rest : List Stmt} (h : DS M X W st ρ (fun ρ' => DB M X W rest ρ' nx R) R) : DB M X W (st :: rest) ρ nx R := db_of (pss_cons ps_sem pb_sem) fun B F σ H I E f =>
  h B F σ H I _ ⟨fun ρ' σ' H' B' q s I' => q B' F σ' H' I' E (f.mono s), fun d ρ' x σ' H' B' q s I' p => f.rt d ρ' x σ' H' B' q s I' p, f.ex, fun ρ' σ' H' B' q s I' => f.bk ρ' σ' H' B' q s I', fun ρ' σ' H' B' q s I' => f.ct ρ' σ' H' B' q s I'⟩
/-- a word between a statement and the rest -/
theorem db_cut {st : Stmt} {rest : List Stmt} (Mid : List Sl → Prop) (h : DS M X W st ρ Mid R) (h2 : ∀ ρ', Mid ρ' → DB M X W rest ρ' nx R) : DB M X W (st :: rest) ρ nx R := db_of (pss_cons ps_sem pb_sem) fun B F σ H I E f =>
  h B F σ H I _ ⟨fun ρ' σ' H' B' q s I' => h2 ρ' q B' F σ' H' I' E (f.mono s), fun d ρ' x σ' H' B' q s I' p => f.rt d ρ' x σ' H' B' q s I' p, f.ex, fun ρ' σ' H' B' q s I' => f.bk ρ' σ' H' B' q s I', fun ρ' σ' H' B' q s I' => f.ct ρ' σ' H' B' q s I'⟩
theorem db_le {st : List Stmt} (l : Le ρ' ρ) (h : DB M X W st ρ' nx R) : DB M X W st ρ nx R := fun B F σ H I E f => h B F σ H (I.le l) E f
theorem ds_le {st : Stmt} (l : Le ρ' ρ) (h : DS M X W st ρ' nx R) : DS M X W st ρ nx R := fun B F σ H I E f => h B F σ H (I.le l) E f
theorem db_freeze {st : List Stmt} (i : Nat) (hi : ρ[i]? = some (.ol ds)) (h : DB M X W st (ρ.set i (.v (.list ds))) nx R) : DB M X W st ρ nx R := fun B F σ H I E f => by
  obtain ⟨B', s, I'⟩ := I.freeze hi
  exact h B' F σ H I' E (f.mono s)
theorem ds_weak {st : Stmt} {nx' : List Sl → Prop} {R' : REnds} (h : DS M X W st ρ nx' R') (h1 : ∀ ρ, nx' ρ → nx ρ) (h2 : ∀ d ρ, R'.rt d ρ → R.rt d ρ) (h3 : ∀ C ρ, R'.ex C ρ → R.ex C ρ) (h4 : ∀ ρ, R'.bk ρ → R.bk ρ) (h5 : ∀ ρ, R'.ct ρ → R.ct ρ) : DS M X W st ρ nx R := fun B F σ H I E f =>
  h B F σ H I E ⟨fun ρ' σ' H' B' q s I' => f.nx ρ' σ' H' B' (h1 _ q) s I', fun d ρ' x σ' H' B' q s I' p => f.rt d ρ' x σ' H' B' (h2 _ _ q) s I' p, fun C ρ' σ' H' B' q s I' => f.ex C ρ' σ' H' B' (h3 _ _ q) s I', fun ρ' σ' H' B' q s I' => f.bk ρ' σ' H' B' (h4 _ q) s I', fun ρ' σ' H' B' q s I' => f.ct ρ' σ' H' B' (h5 _ q) s I'⟩

/-! ### statements -/
theorem ds_ret (he : DE M X e ρ d) (h : R.rt d ρ) : DS M X W (.Return (some e) pos) ρ nx R := ds_of (ps_ret pe_sem) fun B F σ H I E f => he B F σ H I _ fun v H' B' s I' p => f.rt d ρ v σ H' B' h s I' p
theorem ds_retN (h : R.rt .none ρ) : DS M X W (.Return none pos) ρ nx R := ds_of ps_retN fun B F σ H I E f => f.rt .none ρ .non σ H B h (Same.refl B) I .non
theorem ds_if {p q : List Stmt} (hc : DT M X e ρ bb) (h1 : bb = true → DB M X W p ρ nx R) (h2 : bb = false → DB M X W q ρ nx R) : DS M X W (.If e p q pos) ρ nx R := ds_of (ps_if pt_sem pb_sem pb_sem) fun B F σ H I E f => hc B F σ H I _ fun H' B' s I' => by
  cases bb with
  | true =>
    rw [if_pos rfl]
    exact h1 rfl B' F σ H' I' E (f.mono s)
  | false =>
    rw [if_neg Bool.false_ne_true]
    exact h2 rfl B' F σ H' I' E (f.mono s)
theorem ds_expr (he : DE M X e ρ d) (h : nx ρ) (hs : swapsWith e none pos.line X.env = pure false := by rfl) : DS M X W (.Expr e pos) ρ nx R := ds_of (ps_expr pe_sem hs) fun B F σ H I E f => he B F σ H I _ fun v H' B' s I' p => f.nx ρ σ H' B' h s I'
theorem ds_pass (h : nx ρ) : DS M X W (.Pass pos) ρ nx R := ds_of ps_pass fun B F σ H I E f => f.nx ρ σ H B h (Same.refl B) I
theorem ds_break (h : R.bk ρ) : DS M X W (.Break pos) ρ nx R := ds_of ps_break fun B F σ H I E f => f.bk ρ σ H B h (Same.refl B) I
theorem ds_cont (h : R.ct ρ) : DS M X W (.Continue pos) ρ nx R := ds_of ps_continue fun B F σ H I E f => f.ct ρ σ H B h (Same.refl B) I
theorem ds_set (c : Cv M N sc X) (hi : Get i x N) (he : DE M X e ρ d) (hr : SetAt i (.v d) ρ ρ') (h : nx ρ') (hs : swapsWith e (some (.Name x p2)) pos.line X.env = pure false := by rfl) (hl : locB sc x = true := by decide +kernel) : DS M X W (.Assign [.Name x p2] e pos) ρ nx R :=
  ds_of (ps_set (by rw [c.hN]; exact c.nd) (by rw [c.hN]; exact hi.at) (c.loc hl).1 pe_sem hs (c.loc hl).2) fun B F σ H I E f => he B F σ H I _ fun v H' B' s I' p => f.nx _ _ H' B' h s (by rw [← hr.eq.1]; exact I'.setv i hr.eq.2 p)
theorem ds_setN (c : Cv M N sc X) (hi : Get i x N) (he : DN M X e ρ ds) (hr : SetAt i (.ol ds) ρ ρ') (h : nx ρ') (hs : swapsWith e (some (.Name x p2)) pos.line X.env = pure false := by rfl) (hl : locB sc x = true := by decide +kernel) : DS M X W (.Assign [.Name x p2] e pos) ρ nx R :=
  ds_of (ps_set (by rw [c.hN]; exact c.nd) (by rw [c.hN]; exact hi.at) (c.loc hl).1 pe_sem hs (c.loc hl).2) fun B F σ H I E f => he B F σ H I _ fun p xs H' B' s hf I' hd => f.nx _ _ H' B' h s (by rw [← hr.eq.1]; exact I'.setol hf hd i hr.eq.2)
/-- target = e, the target of names -/
theorem ds_asg {tg : Expr} {p : Pat} (hg : PG X tg (gPat M.K p)) (he : DE M X e ρ d) (hp : PSet1 p d ρ ρ') (h : nx ρ') (hs : swapsWithSole [tg] e pos.line X.env = pure false := by rfl) (hw : swappedStores [tg] e X.env = pure none := by rfl)
    (h1 : (assignEach [tg] X.env).map (·.2) = [assign tg X.env] := by rfl) : DS M X W (.Assign [tg] e pos) ρ nx R := ds_of (ps_asg pe_sem hg hs hw h1) fun B F σ H I E f => he B F σ H I _ fun v H' B' s I' p =>
  gPat_run hp I' p fun σ' I2 _ => f.nx _ σ' H' B' h s I2
/-- what swappedStores tells, by the scope -/
def env0 (sc : Scope) : Env := { scope := sc, locals := 0, globals := 0, cells := [] }
theorem sw_env {env : Env} {sc : Scope} {ts : List Expr} (hs : env.scope = sc) : swappedStores ts e env = swappedStores ts e (env0 sc) := by
  have hn : env.kindOf = (env0 sc).kindOf := by funext id; rw [← hs]; rfl
  have hb : env.blockKind = (env0 sc).blockKind := by unfold Env.blockKind; rw [← hs]; rfl
  unfold swappedStores
  rw [hb, hn]
theorem sw1_env {env : Env} {sc : Scope} {t : Option Expr} {n : Nat} (hs : env.scope = sc) : swapsWith e t n env = swapsWith e t n (env0 sc) := by
  have hn : env.kindOf = (env0 sc).kindOf := by funext id; rw [← hs]; rfl
  have hb : env.blockKind = (env0 sc).blockKind := by unfold Env.blockKind; rw [← hs]; rfl
  have h0 : env.scope.kind = (env0 sc).scope.kind := by rw [hs]; rfl
  unfold swapsWith
  rw [hb, hn, h0]
/-- a, b = x, y of local names -/
theorem ds_par2 {k1 k2 : Nat} (c : Cn M k N sc X W) (hi : Get i x N) (hj : Get j y N) (ha : DA M X [a, b] ρ [d1, d2]) (hr : SetAt i (.v d1) ρ ρ') (hr2 : SetAt j (.v d2) ρ' ρ'') (h : nx ρ'') (hij : i ≠ j := by decide)
    (hw : swappedStores [.Tuple [.Name x p2, .Name y p3] k1 p4] (.Tuple [a, b] k2 p5) (env0 sc.rd) = pure (some [x, y]) := by kernel_rfl) (hl : (sc.rd.names.lookup x == some .local && sc.rd.names.lookup y == some .local) = true := by decide +kernel) :
    DS M X W (.Assign [.Tuple [.Name x p2, .Name y p3] k1 p4] (.Tuple [a, b] k2 p5) pos) ρ nx R := by
  rw [Bool.and_eq_true, beq_iff_eq, beq_iff_eq] at hl
  refine ds_of (ps_par c.calm (by rw [c.hN]; exact c.nd) (by rw [c.hN]; exact hi.at) (by rw [c.hN]; exact hj.at) hij (by rw [c.hs]; exact hl.1) (by rw [c.hs]; exact hl.2) pa_sem (by rw [sw_env c.hs]; exact hw)) fun B F σ H I E f => ha B F σ H I _ fun vs H' B' s I' p => ?_
  obtain ⟨v, w, rfl, q1, q2⟩ := inv_all2 p
  have I1 := I'.setv i hr.eq.2 q1
  rw [hr.eq.1] at I1
  have I2 := I1.setv j hr2.eq.2 q2
  rw [hr2.eq.1] at I2
  exact ⟨v, w, rfl, f.nx _ _ H' B' h s I2⟩
theorem inv_all3 {K : PySem.W.Frag} {B : Hp} {vs : List V} (h : DqAll K B vs [d1, d2, d3]) : ∃ u v w, vs = [u, v, w] ∧ Dq K B u d1 ∧ Dq K B v d2 ∧ Dq K B w d3 := by
  cases h with
  | cons h t =>
    obtain ⟨v, w, rfl, q1, q2⟩ := inv_all2 t
    exact ⟨_, v, w, rfl, h, q1, q2⟩
theorem ds_par3 {k1 k2 : Nat} {p6 : Pos} {ρ3 : List Sl} (c : Cn M k N sc X W) (hi : Get i x N) (hj : Get j y N) (hk : Get l z N) (ha : DA M X [a, b, c'] ρ [d1, d2, d3]) (hr : SetAt i (.v d1) ρ ρ') (hr2 : SetAt j (.v d2) ρ' ρ'') (hr3 : SetAt l (.v d3) ρ'' ρ3) (h : nx ρ3) (hij : i ≠ j := by decide) (hil : i ≠ l := by decide) (hjl : j ≠ l := by decide)
    (hw : swappedStores [.Tuple [.Name x p2, .Name y p3, .Name z p6] k1 p4] (.Tuple [a, b, c'] k2 p5) (env0 sc.rd) = pure (some [x, y, z]) := by kernel_rfl) (hl : (sc.rd.names.lookup x == some .local && sc.rd.names.lookup y == some .local && sc.rd.names.lookup z == some .local) = true := by decide +kernel) :
    DS M X W (.Assign [.Tuple [.Name x p2, .Name y p3, .Name z p6] k1 p4] (.Tuple [a, b, c'] k2 p5) pos) ρ nx R := by
  rw [Bool.and_eq_true, Bool.and_eq_true, beq_iff_eq, beq_iff_eq, beq_iff_eq] at hl
  refine ds_of (ps_par3 c.calm (by rw [c.hN]; exact c.nd) (by rw [c.hN]; exact hi.at) (by rw [c.hN]; exact hj.at) (by rw [c.hN]; exact hk.at) hij hil hjl (by rw [c.hs]; exact hl.1.1) (by rw [c.hs]; exact hl.1.2) (by rw [c.hs]; exact hl.2) pa_sem (by rw [sw_env c.hs]; exact hw)) fun B F σ H I E f => ha B F σ H I _ fun vs H' B' s I' p => ?_
  obtain ⟨u, v, w, rfl, q1, q2, q3⟩ := inv_all3 p
  have I1 := I'.setv i hr.eq.2 q1
  rw [hr.eq.1] at I1
  have I2 := I1.setv j hr2.eq.2 q2
  rw [hr2.eq.1] at I2
  have I3 := I2.setv l hr3.eq.2 q3
  rw [hr3.eq.1] at I3
  exact ⟨u, v, w, rfl, f.nx _ _ H' B' h s I3⟩

/-! ### what is walked -/
def Yields (M : Md) (B1 : Hp) (J : It) (ds : List PyData) : Prop := ∀ B2 F H2 σ2 ρ2, Same B1 B2 → EnvB M.K B2 F H2 σ2 ρ2 →
  (∀ (i : Nat) d, ds[i]? = some d → J.go i H2 ∧ ∀ x H3, J.yld i H2 x H3 → ∃ B3, Same B2 B3 ∧ EnvB M.K B3 F H3 σ2 ρ2 ∧ Dq M.K B3 x d) ∧ J.stop ds.length H2
def DI (M : Md) (X : Cx) (tg iter : Expr) (ρ : List Sl) (ds : List PyData) : Prop := ∀ B F σ H, EnvB M.K B F H σ ρ → ∀ R : It → Hp → Prop, (∀ J H1 B1, Same B B1 → EnvB M.K B1 F H1 σ ρ → Yields M B1 J ds → R J H1) → semI X tg iter σ H R
theorem di_of {tg iter : Expr} {t : TI} (h : PI X tg iter t) (hv : ∀ B F σ H, EnvB M.K B F H σ ρ → ∀ Rk : It → Hp → Prop, (∀ J H1 B1, Same B B1 → EnvB M.K B1 F H1 σ ρ → Yields M B1 J ds → Rk J H1) → t σ H Rk) : DI M X tg iter ρ ds :=
  fun B F σ H I R r pins s iv => h.run pins s σ H R iv (hv B F σ H I R r)
theorem DI.eq {tg iter : Expr} {es : List PyData} (h : DI M X tg iter ρ ds) (q : ds = es) : DI M X tg iter ρ es := q ▸ h
theorem di_list {tg : Expr} (c : Cv M N sc X) (h : DE M X e ρ (.list ds)) : DI M X tg e ρ ds := di_of (pi_list pe_sem) fun B F σ H I Rk r => h B F σ H I _ fun v H1 B1 s I1 p => by
  cases p with
  | lst sq al =>
    rename_i a xs
    refine ⟨a, rfl, ⟨xs, SqL.of (I1.bh _ _ sq)⟩, r _ H1 B1 s I1 fun B2 F2 H2 σ2 ρ2 s2 I2 => ⟨fun i d hd => ?_, ?_⟩⟩
    · have hq : SqL X.K H2 a xs := SqL.of ((s2.trans I2.bh) _ _ sq)
      obtain ⟨w, hw, hp⟩ := dpa_getd al i d hd
      refine ⟨⟨xs, w, hq, hw⟩, fun x H3 hy => ?_⟩
      obtain ⟨rfl, hx⟩ := hy
      have e : x = w := Option.some.inj ((hx xs hq).symm.trans hw)
      subst e
      exact ⟨B2, Same.refl B2, I2, dp_mono s2 hp⟩
    · exact ⟨xs, SqL.of ((s2.trans I2.bh) _ _ sq), by rw [dpa_len al]; exact Nat.le_refl _⟩
theorem di_tup {tg : Expr} (c : Cv M N sc X) (h : DE M X e ρ (.tuple ds)) : DI M X tg e ρ ds := di_of (pi_tup pe_sem) fun B F σ H I Rk r => h B F σ H I _ fun v H1 B1 s I1 p => by
  cases p with
  | tup sq al =>
    rename_i a xs
    refine ⟨a, rfl, ⟨xs, by rw [c.eK]; exact Evl.ex_t I1.bh sq⟩, r _ H1 B1 s I1 fun B2 F2 H2 σ2 ρ2 s2 I2 => ⟨fun i d hd => ?_, ?_⟩⟩
    · have hq : SqT X.K H2 a xs := by rw [c.eK]; exact Evl.ex_t (s2.trans I2.bh) sq
      obtain ⟨w, hw, hp⟩ := dpa_getd al i d hd
      refine ⟨⟨xs, w, hq, hw⟩, fun x H3 hy => ?_⟩
      obtain ⟨rfl, hx⟩ := hy
      have e : x = w := Option.some.inj ((hx xs hq).symm.trans hw)
      subst e
      exact ⟨B2, Same.refl B2, I2, dp_mono s2 hp⟩
    · exact ⟨xs, by rw [c.eK]; exact Evl.ex_t (s2.trans I2.bh) sq, by rw [dpa_len al]; exact Nat.le_refl _⟩
def rangeD (lo : Int) (n : Nat) : List PyData := (List.range n).map fun i => .int (lo + (i : Nat))
theorem rangeD_get {lo : Int} {n : Nat} {i : Nat} (h : (rangeD lo n)[i]? = some d) : i < n ∧ d = .int (lo + i) := by
  unfold rangeD at h
  rw [List.getElem?_map] at h
  cases hq : (List.range n)[i]? with
  | none => rw [hq] at h; cases h
  | some m =>
    rw [hq] at h
    obtain ⟨h1, h2⟩ := List.getElem?_eq_some_iff.mp hq
    rw [List.getElem_range] at h2
    rw [List.length_range] at h1
    subst h2
    exact ⟨h1, (Option.some.inj h).symm⟩
theorem rangeD_len {lo : Int} {n : Nat} : (rangeD lo n).length = n := by unfold rangeD; rw [List.length_map, List.length_range]
theorem yields_rng {B1 : Hp} {lo : Int} {n : Nat} : Yields M B1 (Itr lo n) (rangeD lo n) := fun B2 F2 H2 σ2 ρ2 s2 I2 => ⟨fun i d hd => by
    obtain ⟨h1, h2⟩ := rangeD_get hd
    refine ⟨h1, fun x H3 hy => ?_⟩
    obtain ⟨rfl, rfl⟩ := hy
    subst h2
    exact ⟨B2, Same.refl B2, I2, .int _⟩, by rw [rangeD_len]; exact Nat.le_refl _⟩
theorem di_range1 {tg : Expr} {q : Pos} {m : Int} (c : Cv M N sc X) (hm : M.mg "range" = none) (ha : DE M X e ρ (.int m)) (hb : -(2 ^ 62) ≤ m ∧ m < 2 ^ 62) (hs : starEach (e :: []) X.env = (false, eval e X.env) :: starEach [] X.env := by rfl) (hg : glB sc "range" = true := by decide +kernel) : DI M X tg (.Call (.Name "range" q) [e] [] pos) ρ (rangeD 0 m.toNat) :=
  di_of (pi_range1 (c.gl hg) (by rw [c.eg]; exact hm) (pa_cons pe_sem pa_nil hs) hs) fun B F σ H I Rk r => ha B F σ H I _ fun v H1 B1 s I1 p => by
    cases p
    exact ⟨m, rfl, hb.1, hb.2, r _ H1 B1 s I1 yields_rng⟩
theorem di_range2 {tg : Expr} {q : Pos} {m n : Int} (c : Cv M N sc X) (hm : M.mg "range" = none) (ha : DE M X a ρ (.int m)) (hn : DE M X b ρ (.int n)) (hb : -(2 ^ 62) ≤ m ∧ m < 2 ^ 62 ∧ -(2 ^ 62) ≤ n ∧ n < 2 ^ 62)
    (hs : starEach (a :: [b]) X.env = (false, eval a X.env) :: starEach [b] X.env := by rfl) (hs2 : starEach (b :: []) X.env = (false, eval b X.env) :: starEach [] X.env := by rfl) (hg : glB sc "range" = true := by decide +kernel) : DI M X tg (.Call (.Name "range" q) [a, b] [] pos) ρ (rangeD m (n - m).toNat) :=
  di_of (pi_range2 (c.gl hg) (by rw [c.eg]; exact hm) (pa_cons pe_sem (pa_cons pe_sem pa_nil hs2) hs) (by rw [hs, hs2]; rfl) hs2) fun B F σ H I Rk r => ha B F σ H I _ fun v H1 B1 s I1 p => by
    cases p
    refine hn B1 F σ H1 I1 _ fun v2 H2 B2 s2 I2 p2 => ?_
    cases p2
    exact ⟨m, n, rfl, hb, r _ H2 B2 (s.trans s2) I2 yields_rng⟩

/-! ### loops -/
theorem ds_for {tg iter : Expr} {body : List Stmt} {p : Pat} (c : Cn M k N sc X W) (hg : PG X tg (gPat M.K p)) (hi : DI M X tg iter ρ ds) (inv : Nat → List Sl → Prop) (h0 : inv 0 ρ)
    (hs : ∀ (i : Nat) d ρ', ds[i]? = some d → inv i ρ' → ∃ ρ'', PSet1 p d ρ' ρ'' ∧ DB M X W body ρ'' (inv (i + 1)) { R with ct := inv (i + 1), bk := nx }) (hd : ∀ ρ', inv ds.length ρ' → nx ρ')
    (hf : ∀ x, foldedSetIterable iter X.env x = pure x := by intro _; rfl) : DS M X W (.For tg iter body [] pos) ρ nx R :=
  ds_of (ps_for c.po c.calm pi_sem hg pb_sem hf) fun B F σ H I E f => hi B F σ H I _ fun J H1 B1 s1 I1 hy => by
    refine ⟨fun i m σ' H' => m = ds.length - i ∧ i ≤ ds.length ∧ ∃ ρ' B', inv i ρ' ∧ Same B1 B' ∧ EnvB M.K B' F H' σ' ρ', ⟨ds.length, by simp, Nat.zero_le _, ρ, B1, h0, Same.refl B1, I1⟩, ?_⟩
    rintro i m σ' H' ⟨rfl, hi, ρ', B', hv, s', I'⟩
    obtain ⟨hgo, hst⟩ := hy B' F H' σ' ρ' s' I'
    by_cases hlt : i < ds.length
    · obtain ⟨go, yl⟩ := hgo i ds[i] (List.getElem?_eq_getElem hlt)
      obtain ⟨ρ'', hp, hb⟩ := hs i ds[i] ρ' (List.getElem?_eq_getElem hlt) hv
      refine .inr ⟨go, fun σ2 H2 => ∃ ρ2 B2, inv (i + 1) ρ2 ∧ Same B1 B2 ∧ EnvB M.K B2 F H2 σ2 ρ2, fun σ2 H2 hN => ?_, fun x H3 hy3 => ?_⟩
      · exact ⟨ds.length - (i + 1), by omega, rfl, hlt, hN⟩
      · obtain ⟨B3, s3, I3, p3⟩ := yl x H3 hy3
        refine gPat_run hp I3 p3 fun σ4 I4 _ => hb B3 F σ4 H3 I4 _ ?_
        have sB : Same B B3 := (s1.trans s').trans s3
        exact ⟨fun ρ5 σ5 H5 B5 q s5 I5 => ⟨ρ5, B5, q, (s'.trans s3).trans s5, I5⟩, fun d ρ5 x σ5 H5 B5 q s5 I5 p5 => f.rt d ρ5 x σ5 H5 B5 q (sB.trans s5) I5 p5, fun C ρ5 σ5 H5 B5 q s5 I5 => f.ex C ρ5 σ5 H5 B5 q (sB.trans s5) I5,
          fun ρ5 σ5 H5 B5 q s5 I5 => f.nx ρ5 σ5 H5 B5 q (sB.trans s5) I5, fun ρ5 σ5 H5 B5 q s5 I5 => ⟨ρ5, B5, q, (s'.trans s3).trans s5, I5⟩⟩
    · have e : i = ds.length := by omega
      subst e
      exact .inl ⟨hst, f.nx ρ' σ' H' B' (hd ρ' hv) (s1.trans s') I'⟩
theorem ds_while {body : List Stmt} (c : Cn M k N sc X W) (inv : Nat → List Sl → Prop) (m0 : Nat) (h0 : inv m0 ρ)
    (hs : ∀ m ρ', inv m ρ' → ∃ bb, DT M X e ρ' bb ∧ (bb = true → DB M X W body ρ' (fun ρ2 => ∃ m', m' < m ∧ inv m' ρ2) { R with ct := fun ρ2 => ∃ m', m' < m ∧ inv m' ρ2, bk := nx }) ∧ (bb = false → nx ρ')) : DS M X W (.While e body [] pos) ρ nx R :=
  ds_of (ps_while c.po pt_sem pb_sem) fun B F σ H I E f => by
    refine ⟨fun m σ' H' => ∃ ρ' B', inv m ρ' ∧ Same B B' ∧ EnvB M.K B' F H' σ' ρ', ⟨m0, ρ, B, h0, Same.refl B, I⟩, ?_⟩
    rintro m σ' H' ⟨ρ', B', hv, s', I'⟩
    obtain ⟨bb, hc, h1, h2⟩ := hs m ρ' hv
    refine hc B' F σ' H' I' _ fun H2 B2 s2 I2 => ?_
    cases bb with
    | true =>
      rw [if_pos rfl]
      refine ⟨fun σ5 H5 => ∃ ρ5 B5, (∃ m', m' < m ∧ inv m' ρ5) ∧ Same B B5 ∧ EnvB M.K B5 F H5 σ5 ρ5, fun σ5 H5 hN => ?_, h1 rfl B2 F σ' H2 I2 _ ?_⟩
      · obtain ⟨ρ5, B5, ⟨m', hm, hv5⟩, s5, I5⟩ := hN
        exact ⟨m', hm, ρ5, B5, hv5, s5, I5⟩
      · have sB : Same B B2 := s'.trans s2
        exact ⟨fun ρ5 σ5 H5 B5 q s5 I5 => ⟨ρ5, B5, q, sB.trans s5, I5⟩, fun d ρ5 x σ5 H5 B5 q s5 I5 p5 => f.rt d ρ5 x σ5 H5 B5 q (sB.trans s5) I5 p5, fun C ρ5 σ5 H5 B5 q s5 I5 => f.ex C ρ5 σ5 H5 B5 q (sB.trans s5) I5,
          fun ρ5 σ5 H5 B5 q s5 I5 => f.nx ρ5 σ5 H5 B5 q (sB.trans s5) I5, fun ρ5 σ5 H5 B5 q s5 I5 => ⟨ρ5, B5, q, sB.trans s5, I5⟩⟩
    | false =>
      rw [if_neg Bool.false_ne_true]
      exact f.nx ρ' σ' H2 B2 (h2 rfl) (s'.trans s2) I2
end

/-! ### defs -/
theorem passN {X : Cx} : Passes (L2N.CX X.prog X.w) X E0 := fun _ _ _ _ _ _ _ h => by
  obtain ⟨_, _, _, _, _, _, _, _, _, _, _, _, z⟩ := h
  exact z.elim
theorem takesN {X : Cx} : L2N.Takes X (fun _ _ _ _ => False) := fun _ _ x => by
  obtain ⟨_, _, _, _, _, _, _, _, _, _, _, _, _, _, _, _, z⟩ := x
  exact z.elim
inductive Out where
  | ret (d : PyData)
  | exc (C : Addr)
def spX (K : PySem.W.Frag) (φ : List PyData → Out → Prop) : Sp := fun vs H Q E => ∃ ds o B F, φ ds o ∧ DqAll K B vs ds ∧ Same B H ∧ Same F H ∧ (∀ a u, F a = some u → B a = none) ∧
  (∀ d, o = .ret d → ∀ v H' B', Same B B' → Same F H' → Same B' H' → (∀ a u, F a = some u → B' a = none) → Dq K B' v d → Q v H') ∧ (∀ C, o = .exc C → ∀ H', Same B H' → Same F H' → E (.ref C) none H')
structure Fok (M : Md) (k : Nat) (x : Str) (φ : List PyData → Out → Prop) : Prop where
  ex : ∃ f fd ps, FnOk M.P M.w M.K M.mg M.base (L2N.CX M.P M.w) k f fd ps (spX M.K φ) ∧ M.mg x = some (.ref f) ∧ PySem.W.keepIn M.K (.ref f) = true ∧ Binds M.K fd ps []
theorem Fok.mono {M : Md} {j k : Nat} {x : Str} {φ : List PyData → Out → Prop} (F : Fok M j x φ) (h : j ≤ k) : Fok M k x φ := by
  obtain ⟨f, fd, ps, h1, h2⟩ := F.ex
  exact ⟨f, fd, ps, h1.mono h, h2⟩
/-- all of H but B -/
def rem (H B : Hp) : Hp := fun a => match B a with
  | none => H a
  | some _ => none
theorem rem_same {H B : Hp} : Same (rem H B) H := fun a o e => by
  unfold rem at e
  split at e
  · exact e
  · cases e
theorem rem_dj {H B : Hp} {a : Addr} {u : HO} (e : rem H B a = some u) : B a = none := by
  unfold rem at e
  split at e
  · assumption
  · cases e
theorem rem_at {H B : Hp} {a : Addr} (h : B a = none) : rem H B a = H a := by unfold rem; rw [h]
/-- behind a call -/
theorem EnvB.back {K : PySem.W.Frag} {B F H B' H' : Hp} {σ : L2.St} {ρ : List Sl} (I : EnvB K B F H σ ρ) (s1 : Same B B') (s2 : Same (rem H B) H') (s3 : Same B' H') (dj : ∀ a u, rem H B a = some u → B' a = none) : EnvB K B' F H' σ ρ := by
  have hr : ∀ a u, F a = some u → rem H B a = some u := fun a u e => by rw [rem_at (I.dj a u e)]; exact I.fh a u e
  refine ⟨I.ln, s3, fun a u e => s2 a u (hr a u e), fun a u e => dj a u (hr a u e), ?_⟩
  obtain ⟨O, h1, h2⟩ := I.own
  have ho : ∀ a t, O a = some t → ∃ u, H a = some u ∧ rem H B a = some u := fun a t e => by
    obtain ⟨q1, _, q3⟩ := h1 a t e
    cases hu : H a with
    | none => exact absurd hu q3
    | some u => exact ⟨u, rfl, by rw [rem_at q1]; exact hu⟩
  refine ⟨O, fun a t e => ?_, fun i s hs => ?_⟩
  · obtain ⟨u, e1, e2⟩ := ho a t e
    exact ⟨dj a u e2, (h1 a t e).2.1, by rw [s2 a u e2]; simp⟩
  · rcases h2 i s hs with z | ⟨x, hx, hh⟩
    · exact .inl z
    · refine .inr ⟨x, hx, hold_mono s1 (fun a t e => ⟨e, ?_⟩) hh⟩
      obtain ⟨u, e1, e2⟩ := ho a _ e
      rw [s2 a u e2, e1]
section
variable {M : Md} {X : Cx} {W : WX} {N : List Str} {sc : Sco} {k kf : Nat} {ρ ρ' ρ'' : List Sl} {d d1 d2 d3 : PyData} {ds : List PyData} {e a b c' : Expr} {es : List Expr} {pos p2 p3 p4 p5 : Pos} {x y z : Str} {φ : List PyData → Out → Prop} {nx : List Sl → Prop} {R : REnds}
/-- a call that returns -/
theorem de_call {q : Pos} (c : Cn M k N sc X W) (G : Fok M kf x φ) (hk : kf ≤ k) (ha : DA M X (e :: es) ρ ds) (hφ : φ ds (.ret d)) (he : starEach (e :: es) X.env = (false, eval e X.env) :: starEach es X.env := by rfl)
    (hpl : (backTo pos (starEach es X.env)).any (·.1) = false := by rfl) (hg : (glB sc x && okN x) = true := by decide +kernel) : DE M X (.Call (.Name x q) (e :: es) [] pos) ρ d := by
  rw [Bool.and_eq_true] at hg
  obtain ⟨f, fd, ps, F, hm, hkp, hb⟩ := G.ex
  have F1 : FnOk X.prog X.w X.K X.mg X.base (L2N.CX X.prog X.w) kf f fd ps (spX M.K φ) := by rw [c.eP, c.ew, c.eK, c.eg, c.eb]; exact F
  refine de_of (pe_call F1 (c.room.mono hk) (c.gl hg.1) (by rw [c.eg]; exact hm) (by rw [c.eK]; exact hkp) (by rw [c.eK]; exact hb) .nil (passN (X := X)) pa_sem (okN1 hg.2) he hpl) fun B F σ H I Q q => ?_
  refine ha B F σ H I _ fun vs H1 B1 s1 I1 p1 => ?_
  refine ⟨ds, .ret d, B1, rem H1 B1, hφ, by rw [List.append_nil]; exact p1, I1.bh, rem_same, fun a u => rem_dj, fun d' hd v H' B' t1 t2 t3 t4 pv => ?_, fun C hC => by cases hC⟩
  cases hd
  exact q v H' B' (s1.trans t1) (I1.back t1 t2 t3 t4) pv
theorem de_call0 {q : Pos} (c : Cn M k N sc X W) (G : Fok M kf x φ) (hk : kf ≤ k) (hφ : φ [] (.ret d)) (hg : (glB sc x && okN x) = true := by decide +kernel) : DE M X (.Call (.Name x q) [] [] pos) ρ d := by
  rw [Bool.and_eq_true] at hg
  obtain ⟨f, fd, ps, F, hm, hkp, hb⟩ := G.ex
  have F1 : FnOk X.prog X.w X.K X.mg X.base (L2N.CX X.prog X.w) kf f fd ps (spX M.K φ) := by rw [c.eP, c.ew, c.eK, c.eg, c.eb]; exact F
  refine de_of (pe_call0 F1 (c.room.mono hk) (c.gl hg.1) (by rw [c.eg]; exact hm) (by rw [c.eK]; exact hkp) (by rw [c.eK]; exact hb) .nil (passN (X := X)) (okN1 hg.2)) fun B F σ H I Q q => ?_
  refine ⟨[], .ret d, B, rem H B, hφ, .nil, I.bh, rem_same, fun a u => rem_dj, fun d' hd v H' B' t1 t2 t3 t4 pv => ?_, fun C hC => by cases hC⟩
  cases hd
  exact q v H' B' t1 (I.back t1 t2 t3 t4) pv
/-- the frame is the def's own -/
def Tr (X : Cx) : Prop := X.stack = X.env :: X.outer ∧ X.env.frame = some X.env.locals
/-- THE RULE for a def -/
theorem fn_mkT {st : Stmt} {f : Addr} {fd : FuncData} {qual : Str} {ps : List Str} (F : Fun M.K x qual st f fd) (S : FnScope N ps (defScope st)) (hlen : ∀ ds o, φ ds o → ds.length = ps.length)
    (hbody : ∀ (X : Cx) (W : WX) (ds : List PyData) (o : Out), Cn M k N ⟨defScope st, defScope st⟩ X W → Tr X → φ ds o → DB M X W (defBody st) (ds.map .v ++ List.replicate (N.length - ds.length) .no) (fun _ => o = .ret .none) { rt := fun d _ => o = .ret d, ex := fun C _ => o = .exc C }) : FnOk M.P M.w M.K M.mg M.base (L2N.CX M.P M.w) (k + 1) f fd ps (spX M.K φ) := by
  obtain ⟨oc, od, kV, doc, pm, an, cdv, ct, osl, rfl, lk, hcd⟩ := F.ex
  refine fn_of lk hcd S (fun vs H Q E h => ?_) (fun A outer s H vs Q E hr h => ?_)
  · obtain ⟨ds, o, B, F, hφ, al, _⟩ := h
    rw [dpa_len al]
    exact hlen ds o hφ
  · obtain ⟨ds, o, B, F', hφ, al, sB, sF, dj, hret, hexc⟩ := h
    have hps : ps.length ≤ N.length := by have := congrArg List.length S.pre; rw [List.length_take] at this; omega
    have hn := dpa_len al
    have hl := hlen ds o hφ
    have c : Cn M k N ⟨defScope st, defScope st⟩ (cxOf (L2N.CX M.P M.w) M.P M.w M.K M.mg M.base N qual (defScope st) f cdv A outer s H E) (fun cls d _ H => E cls d H) :=
      { eP := rfl, ew := rfl, eK := rfl, eg := rfl, eb := rfl, hN := rfl, nd := S.nd, hs := rfl, kind := S.kind, loc := fun h => loc_def rfl (fun _ => rfl) h, un := by have := hr.un; show _ + 200 < _; simp only [cxOf]; omega, calm := rfl, room := hr, tk := L2N.takes_of rfl rfl rfl rfl, po := passes_of rfl }
    refine ⟨_, pb_sem, hbody _ _ ds o c ⟨rfl, rfl⟩ hφ B F' (L2.start N vs) H ?_ _ ?_⟩
    · refine ⟨?_, sB, sF, dj, fun _ => none, (fun a t e => by cases e), fun i s hs => ?_⟩
      · unfold L2.start
        rw [List.length_append, List.length_append, List.length_map, List.length_map, List.length_replicate, List.length_replicate, hn]
      · by_cases hi : i < ds.length
        · rw [List.getElem?_append_left (by simpa using hi), List.getElem?_map] at hs
          cases hq : ds[i]? with
          | none => rw [hq] at hs; cases hs
          | some d =>
            rw [hq] at hs
            cases hs
            obtain ⟨v, hv, hp⟩ := dpa_getd al i d hq
            refine .inr ⟨v, ?_, hp⟩
            unfold L2.start
            rw [List.getElem?_append_left (by rw [List.length_map]; omega), List.getElem?_map, hv]
            rfl
        · rw [List.getElem?_append_right (by simpa using hi), List.getElem?_replicate] at hs
          split at hs
          · cases hs; exact .inl rfl
          · cases hs
    · refine ⟨fun ρ σ' H' B' q t I' => ?_, fun d ρ x σ' H' B' q t I' p => ?_, fun C ρ σ' H' B' q t I' => ?_, fun ρ σ' H' B' q t I' => q.elim, fun ρ σ' H' B' q t I' => q.elim⟩
      · exact hret .none q .non H' B' t I'.fh I'.bh I'.dj .non
      · exact hret d q x H' B' t I'.fh I'.bh I'.dj p
      · exact hexc C q H' (t.trans I'.bh) I'.fh
theorem fn_mkD {st : Stmt} {f : Addr} {fd : FuncData} {qual : Str} {ps : List Str} (F : Fun M.K x qual st f fd) (S : FnScope N ps (defScope st)) (hlen : ∀ ds o, φ ds o → ds.length = ps.length)
    (hbody : ∀ (X : Cx) (W : WX) (ds : List PyData) (o : Out), Cn M k N ⟨defScope st, defScope st⟩ X W → φ ds o → DB M X W (defBody st) (ds.map .v ++ List.replicate (N.length - ds.length) .no) (fun _ => o = .ret .none) { rt := fun d _ => o = .ret d, ex := fun C _ => o = .exc C }) : FnOk M.P M.w M.K M.mg M.base (L2N.CX M.P M.w) (k + 1) f fd ps (spX M.K φ) :=
  fn_mkT F S hlen fun X W ds o c _ h => hbody X W ds o c h
theorem fok_mkT {st : Stmt} {f : Addr} {fd : FuncData} {qual : Str} {ps : List Str} (F : Fun M.K x qual st f fd) (hm : M.mg x = some (.ref f)) (hb : Binds M.K fd ps []) (S : FnScope N ps (defScope st)) (hlen : ∀ ds o, φ ds o → ds.length = ps.length)
    (hbody : ∀ (X : Cx) (W : WX) (ds : List PyData) (o : Out), Cn M k N ⟨defScope st, defScope st⟩ X W → Tr X → φ ds o → DB M X W (defBody st) (ds.map .v ++ List.replicate (N.length - ds.length) .no) (fun _ => o = .ret .none) { rt := fun d _ => o = .ret d, ex := fun C _ => o = .exc C }) : Fok M (k + 1) x φ := by
  exact ⟨f, fd, ps, fn_mkT F S hlen hbody, hm, F.kp, hb⟩
theorem fok_mk {st : Stmt} {f : Addr} {fd : FuncData} {qual : Str} {ps : List Str} (F : Fun M.K x qual st f fd) (hm : M.mg x = some (.ref f)) (hb : Binds M.K fd ps []) (S : FnScope N ps (defScope st)) (hlen : ∀ ds o, φ ds o → ds.length = ps.length)
    (hbody : ∀ (X : Cx) (W : WX) (ds : List PyData) (o : Out), Cn M k N ⟨defScope st, defScope st⟩ X W → φ ds o → DB M X W (defBody st) (ds.map .v ++ List.replicate (N.length - ds.length) .no) (fun _ => o = .ret .none) { rt := fun d _ => o = .ret d, ex := fun C _ => o = .exc C }) : Fok M (k + 1) x φ := by
  exact ⟨f, fd, ps, fn_mkD F S hlen hbody, hm, F.kp, hb⟩
/-- the law's promise, of the script -/
theorem sp_script {K : PySem.W.Frag} {H : Hp} {a : Addr} {ns : List Int} (h : SqL K H a (ns.map V.int)) (hφ : φ [scrD ns] (.ret (.bool true))) : spX K φ [.ref a] H (fun v _ => v = .bl true) fun _ _ _ => False :=
  ⟨[scrD ns], .ret (.bool true), H, fun _ => none, hφ, .cons (.scr rfl h) .nil, Same.refl H, (fun _ _ e => by cases e), (fun _ _ e => by cases e), fun d hd v H' B' _ _ _ _ p => by
    cases hd
    cases p
    rfl, fun C hC => by cases hC⟩
theorem cx_no {P : Program} {w : World} {H : Hp} {s : Shared} {u : Value} {s' : Shared} (h : L2N.CX P w [] H s (fun _ _ _ => False) u s') : False := by
  obtain ⟨_, _, _, _, _, _, _, _, _, _, _, _, z⟩ := h
  exact z
end
end Dl

namespace Dl
open PySem PySem.Spec PyProof.Rows L2

/-! ### texts as lists of signs -/
abbrev S (l : List Nat) : PyData := .str ⟨l.toArray⟩
theorem str_inj {a b : List Nat} (h : (⟨a.toArray⟩ : Str) = ⟨b.toArray⟩) : a = b := by
  injection h with h
  simpa using h
theorem str_dec (a b : List Nat) : decide ((⟨a.toArray⟩ : Str) = ⟨b.toArray⟩) = decide (a = b) := by
  by_cases e : a = b
  · rw [e, decide_eq_true rfl, decide_eq_true rfl]
  · rw [decide_eq_false e, decide_eq_false fun z => e (str_inj z)]
section
variable {M : Md} {X : Cx} {W : WX} {N : List Str} {sc : Sco} {k : Nat} {ρ ρ' ρ'' : List Sl} {d d1 d2 d3 d' : PyData} {ds es' : List PyData} {e a b c' o : Expr} {es : List Expr} {pos p2 p3 p4 p5 apos : Pos} {x y z : Str} {bb b1 b2 : Bool} {i j l : Nat} {nx : List Sl → Prop} {R : REnds} {s t : List Nat} {m n : Int}
theorem de_strS {y : Str} {j} (l : List Nat) (h : y = ⟨l.toArray⟩) : DE M X (.Constant (.str y) j pos) ρ (S l) := by
  subst h
  exact de_str
theorem o_addS (h : s.length + t.length ≤ 100000) : Op2 M X (binaryOp .Add) (S s) (S t) (S (s ++ t)) := op2_val op_add_str inv_str inv_str (fun B => .str _) fun H Q q => ⟨_, _, rfl, rfl, by
  show s.toArray.size + t.toArray.size ≤ _
  rw [List.size_toArray, List.size_toArray]
  exact Evl.sz_of h, by
  have e : (⟨s.toArray⟩ ++ ⟨t.toArray⟩ : Str) = ⟨(s ++ t).toArray⟩ := by
    show (⟨s.toArray ++ t.toArray⟩ : Str) = _
    simp
  rw [e]
  exact q⟩
theorem o_ltS : Op2 M X (compareOp .Lt) (S s) (S t) (.bool (decide (s < t))) := op2_val op_lt_str inv_str inv_str (fun B => .bl _) fun H Q q => ⟨_, _, rfl, rfl, q⟩
theorem o_eqSS : Op2 M X (compareOp .Eq) (S s) (S t) (.bool (decide (s = t))) := by
  rw [← str_dec]
  exact o_eqS
theorem o_neSS : Op2 M X (compareOp .NotEq) (S s) (S t) (.bool (!decide (s = t))) := by
  rw [← str_dec]
  exact o_neS
theorem o_inS {q : Nat} : Op2 M X (compareOp .In) (S [q]) (S t) (.bool (decide (q ∈ t))) := op2_val op_in_sign inv_str inv_str (fun B => .bl _) fun H Q h => ⟨q, _, rfl, rfl, h⟩
theorem o_niS {q : Nat} : Op2 M X (compareOp .NotIn) (S [q]) (S t) (.bool (!decide (q ∈ t))) := op2_val op_notIn_sign inv_str inv_str (fun B => .bl _) fun H Q h => ⟨q, _, rfl, rfl, h⟩
theorem o_isB : Op2 M X (compareOp .Is) (.bool b1) (.bool b2) (.bool (decide (b1 = b2))) := op2_val op_isBl inv_bl inv_bl (fun B => .bl _) fun H Q q => ⟨b1, b2, rfl, rfl, q⟩
theorem o_isnB : Op2 M X (compareOp .IsNot) (.bool b1) (.bool b2) (.bool (!decide (b1 = b2))) := op2_val op_notBl inv_bl inv_bl (fun B => .bl _) fun H Q q => ⟨b1, b2, rfl, rfl, q⟩
/-! lists and tuples joined -/
theorem o_addL (h : ds.length + es'.length ≤ 10000000) : Op2 M X (binaryOp .Add) (.list ds) (.list es') (.list (ds ++ es')) := ⟨_, op_cat, fun B F σ H ρ u1 u2 I p1 p2 Q q => by
  cases p1 with
  | lst s1 a1 =>
    cases p2 with
    | lst s2 a2 =>
      refine ⟨_, _, _, _, rfl, rfl, I.bh _ _ s1, I.bh _ _ s2, ?_, fun p hp => ?_⟩
      · rw [dpa_len a1, dpa_len a2]
        exact Nat.le_trans h (by decide)
      · obtain ⟨t1, I2⟩ := I.new (o := .lst _) hp
        exact q _ _ _ t1 I2 (.lst upd_same (dpa_mono t1 (dpa_app a1 a2)))⟩
theorem dn_addL (ha : DE M X a ρ (.list ds)) (hb : DE M X b ρ (.list es')) (h : ds.length + es'.length ≤ 10000000) : DN M X (.BinOp a .Add b pos) ρ (ds ++ es') := dn_of (pe_op op_cat pe_sem pe_sem) fun B F σ H I Q q => run2 (R := fun v1 v2 H' => rCat v1 v2 H' Q) ha hb I fun v1 v2 H' B' s I' p1 p2 => by
  cases p1 with
  | lst s1 a1 =>
    cases p2 with
    | lst s2 a2 =>
      refine ⟨_, _, _, _, rfl, rfl, I'.bh _ _ s1, I'.bh _ _ s2, ?_, fun p hp => ?_⟩
      · rw [dpa_len a1, dpa_len a2]
        exact Nat.le_trans h (by decide)
      · exact q p _ _ B' s (I'.fh.free hp) (I'.lay hp) (dpa_app a1 a2)
theorem o_addT (c : Cv M N sc X) (h : ds.length + es'.length ≤ 100000) : Op2 M X (binaryOp .Add) (.tuple ds) (.tuple es') (.tuple (ds ++ es')) := ⟨_, op_catA, fun B F σ H ρ u1 u2 I p1 p2 Q q => by
  cases p1 with
  | tup s1 a1 =>
    cases p2 with
    | tup s2 a2 =>
      refine ⟨_, _, _, _, rfl, rfl, by rw [c.eK]; exact Evl.ex_t I.bh s1, by rw [c.eK]; exact Evl.ex_t I.bh s2, ?_, fun z => ?_, fun _ z => ?_, fun _ _ p hp => ?_⟩
      · rw [dpa_len a1, dpa_len a2]
        exact Evl.sz_of h
      · subst z
        cases a1
        exact q _ _ _ (Same.refl B) I (.tup s2 a2)
      · subst z
        cases a2
        rw [List.append_nil] at q
        exact q _ _ _ (Same.refl B) I (.tup s1 a1)
      · obtain ⟨t1, I2⟩ := I.new (o := .tup _) hp
        exact q _ _ _ t1 I2 (.tup (.inl (.inl upd_same)) (dpa_mono t1 (dpa_app a1 a2)))⟩
theorem dpa_rep {K : PySem.W.Frag} {B : Hp} {vs : List V} (h : DqAll K B vs ds) : ∀ n : Nat, DqAll K B (List.replicate n vs).flatten (List.replicate n ds).flatten
  | 0 => .nil
  | n + 1 => by
    rw [List.replicate_succ, List.replicate_succ, List.flatten_cons, List.flatten_cons]
    exact dpa_app h (dpa_rep h n)
theorem dn_rep (ha : DE M X a ρ (.list ds)) (hb : DE M X b ρ (.int n)) (h : 0 ≤ n ∧ n ≤ 100000) (h2 : ds.length * n.toNat ≤ 100000) : DN M X (.BinOp a .Mult b pos) ρ (List.replicate n.toNat ds).flatten := dn_of (pe_op op_rep pe_sem pe_sem) fun B F σ H I Q q => run2 (R := fun v1 v2 H' => rRep v1 v2 H' Q) ha hb I fun v1 v2 H' B' s I' p1 p2 => by
  cases p2
  cases p1 with
  | lst s1 a1 =>
    refine ⟨_, n, _, rfl, rfl, I'.bh _ _ s1, by omega, by omega, ?_, fun p hp => ?_⟩
    · rw [dpa_len a1]
      exact Evl.sz_of h2
    · exact q p _ _ B' s (I'.fh.free hp) (I'.lay hp) (dpa_rep a1 _)
/-! in, of any data -/
theorem o_inL (c : Cv M N sc X) (h1 : SeqAt.shaped d = true) (h2 : SeqAt.shaped (.list ds) = true) : Op2 M X (compareOp .In) d (.list ds) (.bool (ds.any fun z => PyData.eqv z d)) :=
  ⟨_, op_inD (by have := c.un; omega), fun B F σ H ρ u1 u2 I p1 p2 Q q => ⟨d, ds, by rw [c.eK]; exact dq_dp (dp_mono I.bh p1) (SeqAt.canLay_of_shaped h1), by rw [c.eK]; exact dq_dp (dp_mono I.bh p2) (SeqAt.canLay_of_shaped h2), h1, h2, q _ _ _ (Same.refl B) I (.bl _)⟩⟩
theorem o_niL (c : Cv M N sc X) (h1 : SeqAt.shaped d = true) (h2 : SeqAt.shaped (.list ds) = true) : Op2 M X (compareOp .NotIn) d (.list ds) (.bool (!ds.any fun z => PyData.eqv z d)) :=
  ⟨_, op_notInD (by have := c.un; omega), fun B F σ H ρ u1 u2 I p1 p2 Q q => ⟨d, ds, by rw [c.eK]; exact dq_dp (dp_mono I.bh p1) (SeqAt.canLay_of_shaped h1), by rw [c.eK]; exact dq_dp (dp_mono I.bh p2) (SeqAt.canLay_of_shaped h2), h1, h2, q _ _ _ (Same.refl B) I (.bl _)⟩⟩
theorem dqa_map_inv {α : Type} {K : PySem.W.Frag} {B : Hp} {enc : α → PyData} {ev : α → V} (h : ∀ a v, Dq K B v (enc a) → v = ev a) : ∀ {as : List α} {vs : List V}, DqAll K B vs (as.map enc) → vs = as.map ev
  | [], _, q => by cases q; rfl
  | a :: as, _, q => by
    rw [List.map_cons] at q
    cases q with
    | cons h1 t => rw [h a _ h1, dqa_map_inv h t, List.map_cons]
theorem eqV_str (s t : List Nat) : eqV (.str ⟨s.toArray⟩) (.str ⟨t.toArray⟩) = decide (s = t) := by
  rw [← str_dec]
  show ((⟨s.toArray⟩ : Str) == ⟨t.toArray⟩) = _
  by_cases e : (⟨s.toArray⟩ : Str) = ⟨t.toArray⟩
  · rw [decide_eq_true e, e]; exact beq_self_eq_true _
  · rw [decide_eq_false e]; exact beq_eq_false_iff_ne.mpr e
theorem inV_str (t : List Nat) (lot : List (List Nat)) : inV (.str ⟨t.toArray⟩) (lot.map fun s => V.str ⟨s.toArray⟩) = decide (t ∈ lot) := by
  unfold inV
  rw [List.any_map]
  induction lot with
  | nil => simp
  | cons s r ih =>
    rw [List.any_cons, ih]
    show (eqV (.str ⟨s.toArray⟩) (.str ⟨t.toArray⟩) || _) = _
    rw [eqV_str]
    by_cases e : s = t
    · subst e; simp
    · have e' : ¬ t = s := fun z => e z.symm
      simp [e, e']
theorem all_flat (lot : List (List Nat)) : (lot.map fun s => V.str ⟨s.toArray⟩).all flatV = true := by
  rw [List.all_map]
  exact List.all_eq_true.mpr fun _ _ => rfl
/-- a text in a tuple of texts -/
theorem o_inT {lot : List (List Nat)} (c : Cv M N sc X) : Op2 M X (compareOp .In) (S t) (.tuple (lot.map S)) (.bool (decide (t ∈ lot))) := ⟨_, op_in_seq, fun B F σ H ρ u1 u2 I p1 p2 Q q => by
  cases p1
  cases p2 with
  | tup sq al =>
    have e := dqa_map_inv (ev := fun s : List Nat => V.str ⟨s.toArray⟩) (fun a v h => inv_str B v h) al
    subst e
    refine ⟨_, _, rfl, .inr (by rw [c.eK]; exact Evl.ex_t I.bh sq), rfl, all_flat lot, ?_⟩
    rw [if_neg Bool.false_ne_true, inV_str]
    exact q _ _ _ (Same.refl B) I (.bl _)⟩
theorem o_niT {lot : List (List Nat)} (c : Cv M N sc X) : Op2 M X (compareOp .NotIn) (S t) (.tuple (lot.map S)) (.bool (!decide (t ∈ lot))) := ⟨_, op_notIn_seq, fun B F σ H ρ u1 u2 I p1 p2 Q q => by
  cases p1
  cases p2 with
  | tup sq al =>
    have e := dqa_map_inv (ev := fun s : List Nat => V.str ⟨s.toArray⟩) (fun a v h => inv_str B v h) al
    subst e
    refine ⟨_, _, rfl, .inr (by rw [c.eK]; exact Evl.ex_t I.bh sq), rfl, all_flat lot, ?_⟩
    rw [if_pos rfl, inV_str]
    exact q _ _ _ (Same.refl B) I (.bl _)⟩
theorem o_niLS {lot : List (List Nat)} (c : Cv M N sc X) : Op2 M X (compareOp .NotIn) (S t) (.list (lot.map S)) (.bool (!decide (t ∈ lot))) := ⟨_, op_notIn_seq, fun B F σ H ρ u1 u2 I p1 p2 Q q => by
  cases p1
  cases p2 with
  | lst sq al =>
    have e := dqa_map_inv (ev := fun s : List Nat => V.str ⟨s.toArray⟩) (fun a v h => inv_str B v h) al
    subst e
    refine ⟨_, _, rfl, .inl (SqL.of (I.bh _ _ sq)), rfl, all_flat lot, ?_⟩
    rw [if_pos rfl, inV_str]
    exact q _ _ _ (Same.refl B) I (.bl _)⟩
/-! len, items, slices -/
theorem cl_lenS (h : s.length ≤ 100000) : Cl M X (.builtin "len") [S s] (.int s.length) := by
  have h1 := cl_len_str (M := M) (X := X) (y := ⟨s.toArray⟩) (by show s.toArray.size ≤ _; rw [List.size_toArray]; exact Evl.sz_of h)
  have e : ((⟨s.toArray⟩ : Str).length : Int) = (s.length : Int) := by show ((s.toArray.size : Nat) : Int) = _; rw [List.size_toArray]
  rw [e] at h1
  exact h1
theorem ix_s {q : Nat} (h : s.length ≤ 100000) (hi : atI s n = some q) : Ix M X (S s) (.int n) (S [q]) := ⟨_, ix_str, fun B F σ H ρ u1 u2 I p1 p2 Q k => by
  cases p1
  cases p2
  exact ⟨_, n, q, rfl, rfl, by show s.toArray.size ≤ _; rw [List.size_toArray]; exact Evl.sz_of h, hi, k _ _ _ (Same.refl B) I (.str _)⟩⟩
def DO (M : Md) (X : Cx) (e : Option Expr) (ρ : List Sl) (o : Option Int) : Prop := ∃ t : TO, PO X e t ∧ ∀ B F σ H, EnvB M.K B F H σ ρ → ∀ Q : Option Int → Hp → Prop, (∀ H' B', Same B B' → EnvB M.K B' F H' σ ρ → Q o H') → t σ H Q
theorem do_none : DO M X none ρ none := ⟨_, po_none, fun B F σ H I Q q => q H B (Same.refl B) I⟩
theorem do_some (h : DE M X e ρ (.int n)) : DO M X (some e) ρ (some n) := ⟨_, po_some pe_sem, fun B F σ H I Q q => h B F σ H I _ fun v H' B' s I' p => by
  cases p
  exact ⟨n, rfl, q H' B' s I'⟩⟩
def Slc (M : Md) (X : Cx) (d1 : PyData) (lo hi : Option Int) (d : PyData) : Prop := ∃ r, SlR X r ∧ ∀ B F σ H ρ v1, EnvB M.K B F H σ ρ → Dq M.K B v1 d1 → ∀ Q : VK, (∀ v H' B', Same B B' → EnvB M.K B' F H' σ ρ → Dq M.K B' v d → Q v H') → r v1 lo hi H Q
theorem de_sl {lo hi : Option Expr} {ol oh : Option Int} (he : DE M X e ρ d1) (hl : DO M X lo ρ ol) (hu : DO M X hi ρ oh) (hs : Slc M X d1 ol oh d) : DE M X (.Subscript e (.Slice lo hi none p2) pos) ρ d := by
  obtain ⟨tl, pl, ql⟩ := hl
  obtain ⟨th, ph, qh⟩ := hu
  obtain ⟨r, hr, hq⟩ := hs
  refine de_of (pe_slice hr pe_sem pl ph) fun B F σ H I Q q => he B F σ H I _ fun v1 H1 B1 s1 I1 p1 => ql B1 F σ H1 I1 _ fun H2 B2 s2 I2 => qh B2 F σ H2 I2 _ fun H3 B3 s3 I3 => ?_
  exact hq B3 F σ H3 ρ v1 I3 (dp_mono (s2.trans s3) p1) Q fun v H4 B4 s4 I4 p4 => q v H4 B4 (((s1.trans s2).trans s3).trans s4) I4 p4
def cut {α : Type} (xs : List α) (lo hi : Option Int) : List α := (xs.drop (HT.sIx xs.length 0 lo)).take (HT.sIx xs.length xs.length hi - HT.sIx xs.length 0 lo)
theorem sl_s {lo hi : Option Int} (h : s.length ≤ 100000) : Slc M X (S s) lo hi (S (cut s lo hi)) := ⟨_, sl_str, fun B F σ H ρ u1 I p1 Q q => by
  cases p1
  refine ⟨_, rfl, by show s.toArray.size ≤ _; rw [List.size_toArray]; exact Evl.sz_of h, ?_⟩
  have e : cutS ⟨s.toArray⟩ lo hi = ⟨(cut s lo hi).toArray⟩ := by
    unfold cutS cut
    have e2 : (⟨s.toArray⟩ : Str).length = s.length := by show s.toArray.size = _; rw [List.size_toArray]
    rw [e2]
  rw [e]
  exact q _ _ _ (Same.refl B) I (.str _)⟩
theorem sl_t {lo hi : Option Int} (c : Cv M N sc X) : Slc M X (.tuple ds) lo hi (.tuple (cut ds lo hi)) := ⟨_, sl_tupA, fun B F σ H ρ u1 I p1 Q q => by
  cases p1 with
  | tup sq al =>
    rename_i a vs
    have hl := dpa_len al
    have hc : DqAll M.K B (cutV vs lo hi) (cut ds lo hi) := by
      unfold cutV cut
      rw [hl]
      exact dpa_take _ (dpa_drop _ al)
    refine ⟨_, _, rfl, by rw [c.eK]; exact Evl.ex_t I.bh sq, fun hz => ?_, fun hz p hp => ?_⟩
    · have e : cut ds lo hi = ds := by
        unfold cut
        rw [← hl, hz.1, hz.2, List.drop_zero, hl, Nat.sub_zero, List.take_length]
      rw [e] at q
      exact q _ _ _ (Same.refl B) I (.tup sq al)
    · obtain ⟨t1, I2⟩ := I.new (o := .tup _) hp
      exact q _ _ _ t1 I2 (.tup (.inl (.inl upd_same)) (dpa_mono t1 hc))⟩
theorem sl_l {lo hi : Option Int} (c : Cv M N sc X) : Slc M X (.list ds) lo hi (.list (cut ds lo hi)) := ⟨_, sl_list, fun B F σ H ρ u1 I p1 Q q => by
  cases p1 with
  | lst sq al =>
    rename_i a vs
    have hl := dpa_len al
    have hc : DqAll M.K B (cutV vs lo hi) (cut ds lo hi) := by
      unfold cutV cut
      rw [hl]
      exact dpa_take _ (dpa_drop _ al)
    refine ⟨_, _, rfl, SqL.of (I.bh _ _ sq), fun p hp => ?_⟩
    obtain ⟨t1, I2⟩ := I.new (o := .lst _) hp
    exact q _ _ _ t1 I2 (.lst upd_same (dpa_mono t1 hc))⟩
theorem Slc.eq {lo hi : Option Int} (h : Slc M X d1 lo hi d) (q : d = d') : Slc M X d1 lo hi d' := q ▸ h
theorem cut_to {α : Type} (xs : List α) (h : 0 ≤ n) : cut xs none (some n) = xs.take n.toNat := by
  obtain ⟨q, rfl⟩ := Int.eq_ofNat_of_zero_le h
  unfold cut
  rw [HT.sIx_none, HT.sIx_nat, List.drop_zero, Nat.sub_zero, Int.toNat_natCast]
  by_cases hq : q ≤ xs.length
  · rw [Nat.min_eq_left hq]
  · rw [Nat.min_eq_right (by omega), List.take_length, List.take_of_length_le (by omega)]
theorem cut_from {α : Type} (xs : List α) (h : 0 ≤ n) : cut xs (some n) none = xs.drop n.toNat := by
  obtain ⟨q, rfl⟩ := Int.eq_ofNat_of_zero_le h
  unfold cut
  rw [HT.sIx_none, HT.sIx_nat, Int.toNat_natCast]
  by_cases hq : q ≤ xs.length
  · rw [Nat.min_eq_left hq]
    exact List.take_of_length_le (by rw [List.length_drop]; omega)
  · rw [Nat.min_eq_right (by omega), List.drop_of_length_le (Nat.le_refl _), List.drop_of_length_le (by omega), List.take_nil]
theorem cut_init {α : Type} (xs : List α) : cut xs none (some (-1)) = xs.dropLast := by
  unfold cut
  rw [HT.sIx_none, List.drop_zero, Nat.sub_zero]
  have e : HT.sIx xs.length xs.length (some (-1)) = xs.length - 1 := by
    show (if (-1 : Int) < 0 then (-1 + (xs.length : Int)).toNat else min (-1 : Int).toNat xs.length) = _
    rw [if_pos (show (-1 : Int) < 0 by decide)]
    omega
  rw [e, List.dropLast_eq_take]
theorem cut_map {α β : Type} (f : α → β) (xs : List α) (lo hi : Option Int) : cut (xs.map f) lo hi = (cut xs lo hi).map f := by
  unfold cut
  rw [List.length_map, ← List.map_drop, ← List.map_take]
theorem cut_len {α : Type} (xs : List α) (lo hi : Option Int) : (cut xs lo hi).length ≤ xs.length := by
  unfold cut
  rw [List.length_take, List.length_drop]
  omega
/-! walked texts -/
theorem di_str {tg : Expr} (h : DE M X e ρ (S s)) : DI M X tg e ρ (s.map fun q => S [q]) := di_of (pi_str pe_sem) fun B F σ H I Rk r => h B F σ H I _ fun v H1 B1 sm I1 p => by
  cases p
  refine ⟨_, rfl, r _ H1 B1 sm I1 fun B2 F2 H2 σ2 ρ2 s2 I2 => ⟨fun i d hd => ?_, ?_⟩⟩
  · rw [List.getElem?_map] at hd
    cases hq : s[i]? with
    | none => rw [hq] at hd; cases hd
    | some q =>
      rw [hq] at hd
      cases hd
      refine ⟨by show i < s.toArray.size; rw [List.size_toArray]; exact (List.getElem?_eq_some_iff.mp hq).1, fun x H3 hy => ?_⟩
      obtain ⟨rfl, c, hc, rfl⟩ := hy
      have e : c = q := by
        have hc' : s.toArray[i]? = some c := hc
        rw [List.getElem?_toArray, hq] at hc'
        exact (Option.some.inj hc').symm
      subst e
      exact ⟨B2, Same.refl B2, I2, .str _⟩
  · show s.toArray.size ≤ _
    rw [List.size_toArray, List.length_map]
    exact Nat.le_refl _
/-! methods of texts -/
def Mt (M : Md) (X : Cx) (id : String) (d0 : PyData) (ds : List PyData) (d : PyData) : Prop := ∃ r, MtR X id r ∧ ∀ B F σ H ρ v vs, EnvB M.K B F H σ ρ → Dq M.K B v d0 → DqAll M.K B vs ds → ∀ Q : VK, (∀ v H' B', Same B B' → EnvB M.K B' F H' σ ρ → Dq M.K B' v d → Q v H') → r v vs H Q
theorem de_m1 {id : String} {name y : Str} (slot : Slot "str" name id) (ty : typeOf (.builtin id) = pure (.type "method_descriptor")) (ho : DE M X o ρ (.str y)) (he : DE M X e ρ d1) (hm : Mt M X id (.str y) [d1] d)
    (hs : starEach [e] X.env = [(false, eval e X.env)] := by rfl) (hbase : attributeBase o name X.env (eval o X.env) = eval o X.env := by rfl) (hline : (apos.endLine == pos.line) = true := by rfl) : DE M X (.Call (.Attribute o name apos) [e] [] pos) ρ d := by
  obtain ⟨r, hr, hq⟩ := hm
  refine de_of (pe_m1 slot ty hr pe_sem pe_sem hs hbase hline) fun B F σ H I Q q => ho B F σ H I _ fun v H1 B1 s1 I1 p1 => ⟨?_, he B1 F σ H1 I1 _ fun v2 H2 B2 s2 I2 p2 => ?_⟩
  · cases p1
    exact ⟨_, rfl⟩
  · exact hq B2 F σ H2 ρ v [v2] I2 (dp_mono s2 p1) (.cons p2 .nil) Q fun v3 H3 B3 s3 I3 p3 => q v3 H3 B3 ((s1.trans s2).trans s3) I3 p3
theorem de_m0 {id : String} {name y : Str} (slot : Slot "str" name id) (ty : typeOf (.builtin id) = pure (.type "method_descriptor")) (ho : DE M X o ρ (.str y)) (hm : Mt M X id (.str y) [] d)
    (hbase : attributeBase o name X.env (eval o X.env) = eval o X.env := by rfl) (hline : (apos.endLine == pos.line) = true := by rfl) : DE M X (.Call (.Attribute o name apos) [] [] pos) ρ d := by
  obtain ⟨r, hr, hq⟩ := hm
  refine de_of (pe_m0 slot ty hr pe_sem hbase hline) fun B F σ H I Q q => ho B F σ H I _ fun v H1 B1 s1 I1 p1 => ⟨?_, ?_⟩
  · cases p1
    exact ⟨_, rfl⟩
  · exact hq B1 F σ H1 ρ v [] I1 p1 .nil Q fun v3 H3 B3 s3 I3 p3 => q v3 H3 B3 (s1.trans s3) I3 p3
end
end Dl

namespace Dl
open PySem PySem.Spec PyProof.Rows L2

/-! ### slots forgotten -/
inductive SetNo : Nat → List Sl → List Sl → Prop
  | zn {r : List Sl} : SetNo 0 (.no :: r) (.no :: r)
  | zv {d : PyData} {r : List Sl} : SetNo 0 (.v d :: r) (.no :: r)
  | s {i : Nat} {x : Sl} {r r' : List Sl} (h : SetNo i r r') : SetNo (i + 1) (x :: r) (x :: r')
theorem SetNo.eq {i : Nat} {r r' : List Sl} (h : SetNo i r r') : r.set i .no = r' ∧ (∀ s, r[i]? = some s → s = .no ∨ ∃ d, s = .v d) := by
  induction h with
  | zn => exact ⟨rfl, fun s hs => .inl (by simpa using hs.symm)⟩
  | zv => exact ⟨rfl, fun s hs => .inr ⟨_, by simpa using hs.symm⟩⟩
  | s h ih => exact ⟨by rw [List.set_cons_succ, ih.1], fun s hs => ih.2 s (by simpa using hs)⟩
inductive Wip : List Nat → List Sl → List Sl → Prop
  | nil {ρ : List Sl} : Wip [] ρ ρ
  | cons {v : Nat} {vs : List Nat} {ρ ρ1 ρ2 : List Sl} (t : Wip vs ρ ρ1) (h : SetNo v ρ1 ρ2) : Wip (v :: vs) ρ ρ2
theorem wip_out {vs : List Nat} {ρ ρ' : List Sl} (h : Wip vs ρ ρ') : (∀ j, j ∉ vs → ρ'[j]? = ρ[j]?) ∧ ∀ j ∈ vs, ∀ s, ρ[j]? = some s → s = .no ∨ ∃ d, s = .v d := by
  induction h with
  | nil => exact ⟨fun _ _ => rfl, fun j hj => by cases hj⟩
  | cons t h ih =>
    rename_i v vs ρ ρ1 ρ2
    refine ⟨fun j hj => ?_, fun j hj s hs => ?_⟩
    · have h1 : v ≠ j := fun z => hj (by rw [z]; exact List.mem_cons_self)
      rw [← h.eq.1, List.getElem?_set_ne h1]
      exact ih.1 j fun z => hj (List.mem_cons_of_mem _ z)
    · by_cases hv : j ∈ vs
      · exact ih.2 j hv s hs
      · have e : j = v := (List.mem_cons.mp hj).resolve_right hv
        subst e
        exact h.eq.2 s (by rw [ih.1 j hv]; exact hs)
theorem EnvB.wipe {K : PySem.W.Frag} {B F H : Hp} {σ : L2.St} {vs : List Nat} {ρ ρ' : List Sl} (h : Wip vs ρ ρ') (I : EnvB K B F H σ ρ) : EnvB K B F H (L2.wipe σ vs) ρ' := by
  induction h with
  | nil => exact I
  | cons t h ih =>
    rename_i v vs ρ0 ρ1 ρ2
    have I1 := (ih I).setno v (none : Option V)
    rw [h.eq.1] at I1
    exact I1
theorem wipe_get {σ : L2.St} : ∀ {vs : List Nat} {j : Nat}, j ∉ vs → (L2.wipe σ vs)[j]? = σ[j]?
  | [], _, _ => rfl
  | v :: vs, j, h => by
    have h1 : v ≠ j := fun z => h (by rw [z]; exact List.mem_cons_self)
    show ((L2.wipe σ vs).set v none)[j]? = _
    rw [List.getElem?_set_ne h1]
    exact wipe_get fun z => h (List.mem_cons_of_mem _ z)
theorem wipe_in {σ : L2.St} : ∀ {vs : List Nat} {j : Nat}, j ∈ vs → (L2.wipe σ vs)[j]? = if j < σ.length then some none else none
  | v :: vs, j, h => by
    show ((L2.wipe σ vs).set v none)[j]? = _
    by_cases e : v = j
    · subst e
      by_cases hl : v < σ.length
      · rw [List.getElem?_set_self (by rw [wipe_length]; exact hl), if_pos hl]
      · rw [List.getElem?_eq_none (by rw [List.length_set, wipe_length]; omega), if_neg hl]
    · rw [List.getElem?_set_ne e]
      exact wipe_in ((List.mem_cons.mp h).resolve_left fun z => e z.symm)
theorem wipe_idem {σ : L2.St} {vs : List Nat} : L2.wipe (L2.wipe σ vs) vs = L2.wipe σ vs := by
  refine List.ext_getElem? fun j => ?_
  by_cases hj : j ∈ vs
  · rw [wipe_in hj, wipe_in hj, wipe_length]
  · rw [wipe_get hj]
theorem EnvB.unwipe {K : PySem.W.Frag} {B0 F0 H0 B F H : Hp} {σ σ2 : L2.St} {vs : List Nat} {ρ ρ2 : List Sl} (I0 : EnvB K B0 F0 H0 σ ρ) (I : EnvB K B F H σ2 ρ2) (hB : Same B0 B) (hσ : ∀ j, j ∉ vs → σ2[j]? = σ[j]?) (hρ : ∀ j, j ∉ vs → ρ2[j]? = ρ[j]?)
    (hv : ∀ j ∈ vs, ∀ s, ρ[j]? = some s → s = .no ∨ ∃ d, s = .v d) : EnvB K B F H σ ρ := by
  refine ⟨I0.ln, I.bh, I.fh, I.dj, ?_⟩
  obtain ⟨O, h1, h2⟩ := I.own
  obtain ⟨_, _, k2⟩ := I0.own
  refine ⟨O, h1, fun j s hs => ?_⟩
  by_cases hj : j ∈ vs
  · rcases hv j hj s hs with z | ⟨d, rfl⟩
    · exact .inl z
    · rcases k2 j _ hs with z | ⟨x, hx, hh⟩
      · exact .inl z
      · exact .inr ⟨x, hx, dp_mono hB hh⟩
  · rcases h2 j s (by rw [hρ j hj]; exact hs) with z | ⟨x, hx, hh⟩
    · exact .inl z
    · exact .inr ⟨x, by rw [← hσ j hj]; exact hx, hh⟩

/-! ### the inside of a comprehension -/
abbrev W0 : WX := fun _ _ _ _ => False
abbrev inX (X : Cx) (scope : Scope) (s : Shared) (H : Hp) (C : Addr) (cl : List (Str × Addr)) (fp : List Addr) : Cx := X.blk s H scope (compEnvC scope cl C X.env) fp
abbrev inS (scope : Scope) (sc : Sco) : Sco := ⟨relS scope sc.rd, scope⟩
theorem look_map {f : NameKind → Str → Bool} {x : Str} {kd : NameKind} (hk : ∀ n, f kd n = false) : ∀ {l : List (Str × NameKind)}, l.lookup x = some kd → (l.map fun y => if f y.2 y.1 = true then (y.1, NameKind.cell) else (y.1, y.2)).lookup x = some kd
  | [], h => by simp at h
  | (n, q) :: r, h => by
    rw [List.map_cons]
    rw [List.lookup_cons] at h
    cases e : x == n with
    | true =>
      rw [e] at h
      have e1 : q = kd := by simpa using h
      subst e1
      rw [if_neg (by rw [hk]; exact Bool.false_ne_true), List.lookup_cons, e]
    | false =>
      rw [e] at h
      have ih := look_map (f := f) hk (l := r) h
      split
      · rw [List.lookup_cons, e]; exact ih
      · rw [List.lookup_cons, e]; exact ih
theorem relS_lookup {scope sc : Scope} {x : Str} {kd : NameKind} (hk : (kd == .free) = false) (h : scope.names.lookup x = some kd) : (relS scope sc).names.lookup x = some kd :=
  look_map (f := fun k n => k == .free && sc.kind == .function && sc.names.lookup n == some .cell) (fun n => by rw [hk]; rfl) h
section
variable {M : Md} {X : Cx} {W : WX} {N : List Str} {sc : Sco} {scope : Scope} {k : Nat} {ρ ρ' ρ'' ρw : List Sl} {d d1 d2 d3 d' : PyData} {ds es' : List PyData} {e a b c' o elt tg iter : Expr} {es ifs : List Expr} {pos p2 p3 p4 p5 apos : Pos} {x y z : Str} {bb b1 b2 : Bool} {i j l : Nat} {nx : List Sl → Prop} {R : REnds} {own : List (Str × Nat)} {p : Pat}
theorem cn_in (c : Cn M k N sc X W) (hk : scope.kind = .function) (s : Shared) (H : Hp) (C : Addr) (cl : List (Str × Addr)) (fp : List Addr) : Cn M k N (inS scope sc) (inX X scope s H C cl fp) W0 where
  eP := c.eP
  ew := c.ew
  eK := c.eK
  eg := c.eg
  eb := c.eb
  hN := c.hN
  nd := c.nd
  hs := by
    show relS scope X.env.scope = _
    rw [c.hs]
  kind := hk
  loc := fun {x} h => by
    have h0 : (inX X scope s H C cl fp).env.scope = relS scope X.env.scope := rfl
    unfold locB at h
    dsimp only at h
    split at h
    · rename_i q
      have q2 := relS_lookup (sc := X.env.scope) rfl q
      exact ⟨.inl (by rw [h0]; exact q2), .inr (by rw [h0]; exact q2)⟩
    · rename_i q
      have q2 := relS_lookup (sc := X.env.scope) rfl q
      refine ⟨.inr (by rw [h0]; exact q2), .inl ?_⟩
      show (scope.names.lookup x == some .cell) = true
      rw [q]
      rfl
    · cases h
  un := c.un
  calm := c.calm
  room := c.room
  tk := takesN
  po := PassesOwn.never
theorem psets_out {js : List Nat} {ds : List PyData} {ρ ρ' : List Sl} (h : PSets js ds ρ ρ') {j : Nat} (hj : j ∉ js) : ρ'[j]? = ρ[j]? := by
  induction h with
  | nil => rfl
  | cons h t ih =>
    rename_i j0 js0 d0 ds0 r0 r1 r2
    rw [ih fun z => hj (List.mem_cons_of_mem _ z), ← h.eq.1, List.getElem?_set_ne fun z => hj (by rw [z]; exact List.mem_cons_self)]
theorem pset_out {p : Pat} {d : PyData} {ρ ρ' : List Sl} (h : PSet1 p d ρ ρ') {j : Nat} (hj : j ∉ p.slots) : ρ'[j]? = ρ[j]? := by
  cases h with
  | nm h => rw [← h.eq.1, List.getElem?_set_ne fun z => hj (by rw [z]; exact List.mem_cons_self)]
  | tp h => exact psets_out h hj
def semTs (X : Cx) (ifs : List Expr) : TT := fun σ H Q => ∀ (pins : List (Addr × Obj)) (s : Shared), Inv X pins σ H s →
  wpAny (model X.prog X.w) X.A (forIn ifs true fun c r => if r = true then do let ok ← isTrue c X.env (eval c X.env); pure (ForInStep.yield ok) else pure (ForInStep.yield r)) (TP X pins σ Q) X.xe s
def DTs (M : Md) (X : Cx) (ifs : List Expr) (ρ : List Sl) (b : Bool) : Prop := ∀ B F σ H, EnvB M.K B F H σ ρ → ∀ Q : Bool → Hp → Prop, (∀ H' B', Same B B' → EnvB M.K B' F H' σ ρ → Q b H') → semTs X ifs σ H Q
theorem dts_nil : DTs M X [] ρ true := fun B F σ H I Q q pins s iv => pts_nil.run pins s σ H Q iv (q H B (Same.refl B) I)
theorem dts_one (h : DT M X e ρ bb) : DTs M X [e] ρ bb := fun B F σ H I Q q pins s iv => (pts_one pt_sem).run pins s σ H Q iv (h B F σ H I Q q)
theorem filterMap_succ {α : Type} (g : Nat → Option α) (n : Nat) : (List.range (n + 1)).filterMap g = (List.range n).filterMap g ++ (g n).toList := by
  rw [List.range_succ, List.filterMap_append]
  cases h : g n with
  | none => simp [h]
  | some v => simp [h]
/-- what a comprehension's turn needs -/
def Turns (M : Md) (k : Nat) (N : List Str) (sc : Sco) (scope : Scope) (tg elt : Expr) (ifs : List Expr) (p : Pat) (ρw : List Sl) (ds : List PyData) (g : Nat → Option PyData) : Prop :=
  ∀ (i : Nat) (d : PyData), ds[i]? = some d → ∃ ρ1 b, PSet1 p d ρw ρ1 ∧ (∀ X1, Cn M k N (inS scope sc) X1 W0 → DTs M X1 ifs ρ1 b ∧ (b = true → ∃ y, g i = some y ∧ DE M X1 elt ρ1 y)) ∧ (b = false → g i = none)
theorem lc_run {g : Nat → Option PyData} {B F H : Hp} {σ : L2.St} (c : Cn M k N sc X W) (hk : scope.kind = .function) (hi : DI M X tg iter ρ ds) (hown : ∀ j ∈ p.slots, j ∈ own.map (·.2)) (hw : Wip (own.map (·.2)) ρ ρw) (h : Turns M k N sc scope tg elt ifs p ρw ds g) (hl : ds.length ≤ 10000000) (I : EnvB M.K B F H σ ρ) {Q : VK}
    (q : ∀ D xs H' B', Same B B' → F D = none → EnvB M.K B' (upd F D (.lst xs)) H' σ ρ → DqAll M.K B' xs ((List.range ds.length).filterMap g) → Q (.ref D) H') :
    tLc (semI X tg iter) (gPat M.K p) (fun σ H Q => ∀ s H0 C cl fp, semTs (inX X scope s H0 C cl fp) ifs σ H Q) (fun σ H Q => ∀ s H0 C cl fp, semE (inX X scope s H0 C cl fp) elt σ H Q) (own.map (·.2)) σ H Q := by
  refine hi B F σ H I _ fun J H1 B1 s1 I1 hy D hD => ?_
  have hFD : F D = none := I1.fh.free hD
  refine ⟨fun i m H' => m = ds.length - i ∧ i ≤ ds.length ∧ ∃ B' acc, Same B1 B' ∧ EnvB M.K B' (upd F D (.lst acc)) H' σ ρ ∧ DqAll M.K B' acc ((List.range i).filterMap g),
    ⟨ds.length, by simp, Nat.zero_le _, B1, [], Same.refl B1, I1.lay hD, .nil⟩, ?_⟩
  rintro i m H' ⟨rfl, hi', B', acc, s', I', al⟩
  obtain ⟨hgo, hst⟩ := hy B' _ H' σ ρ s' I'
  by_cases hlt : i < ds.length
  · obtain ⟨go, yl⟩ := hgo i ds[i] (List.getElem?_eq_getElem hlt)
    obtain ⟨ρ1, b, hp, hin, hno⟩ := h i ds[i] (List.getElem?_eq_getElem hlt)
    refine .inr ⟨go, fun H2 => ∃ B2 acc2, Same B1 B2 ∧ EnvB M.K B2 (upd F D (.lst acc2)) H2 σ ρ ∧ DqAll M.K B2 acc2 ((List.range (i + 1)).filterMap g), fun H2 hN => ⟨ds.length - (i + 1), by omega, rfl, hlt, hN⟩, fun x H3 hy3 => ?_⟩
    obtain ⟨B3, s3, I3, p3⟩ := yl x H3 hy3
    refine gPat_run hp (I3.wipe hw) p3 fun σ4 I4 hw4 => ?_
    have hwi := hw4 (own.map (·.2)) hown
    rw [wipe_idem] at hwi
    refine ⟨hwi, fun s0 H0 C cl fp => ?_⟩
    have hc := hin _ (cn_in c hk s0 H0 C cl fp)
    have out : ∀ {B5 H5 : Hp} {acc5 : List V}, Same B3 B5 → EnvB M.K B5 (upd F D (.lst acc5)) H5 σ4 ρ1 → EnvB M.K B5 (upd F D (.lst acc5)) H5 σ ρ := fun {B5 H5 acc5} t I5 => by
      refine I1.unwipe (vs := own.map (·.2)) I5 ((s'.trans s3).trans t) (fun j hj => ?_) (fun j hj => ?_) (wip_out hw).2
      · have e1 : (L2.wipe σ4 (own.map (·.2)))[j]? = (L2.wipe σ (own.map (·.2)))[j]? := by rw [hwi]
        rw [wipe_get hj, wipe_get hj] at e1
        exact e1
      · rw [← (wip_out hw).1 j hj]
        exact pset_out hp fun z => hj (hown j z)
    refine hc.1 B3 _ σ4 H3 I4 _ fun H5 B5 s5 I5 => ?_
    cases b with
    | false =>
      rw [if_neg Bool.false_ne_true]
      refine ⟨B5, acc, (s'.trans s3).trans s5, out s5 I5, ?_⟩
      rw [filterMap_succ, hno rfl]
      exact dpa_mono (s3.trans s5) (by simpa using al)
    | true =>
      rw [if_pos rfl]
      intro s0 H0 C cl fp
      obtain ⟨y, hy, he⟩ := (hin _ (cn_in c hk s0 H0 C cl fp)).2 rfl
      refine he B5 _ σ4 H5 I5 _ fun v H6 B6 s6 I6 p6 => ?_
      have hD6 : H6 D = some (.lst acc) := I6.fh D _ upd_same
      refine ⟨acc, hD6, ?_, B6, acc ++ [v], ((s'.trans s3).trans s5).trans s6, ?_, ?_⟩
      · have h1 := dpa_len al
        have h2 : ((List.range i).filterMap g).length ≤ i := by
          have := List.length_filterMap_le g (List.range i)
          rw [List.length_range] at this
          exact this
        have h3 : sizeLine = 16777216 := sizeLine_eq
        omega
      · have I7 := (out (s5.trans s6) I6).relay (o' := .lst (acc ++ [v])) upd_same
        rw [upd_upd] at I7
        exact I7
      · rw [filterMap_succ, hy]
        exact dpa_app (dpa_mono ((s3.trans s5).trans s6) al) (.cons p6 .nil)
  · have e : i = ds.length := by omega
    subst e
    exact .inl ⟨hst, q D acc H' B' (s1.trans s') hFD I' al⟩
/-- a list comprehension: as a value, and stored to a local name on its own line -/
structure DL (M : Md) (N : List Str) (sc : Sco) (X : Cx) (W : WX) (e : Expr) (ρ : List Sl) (ds : List PyData) : Prop where
  dn : DN M X e ρ ds
  sv : ∀ {i : Nat} {y : Str} {p2 pos : Pos} {ρ' : List Sl} {nx : List Sl → Prop} {R : REnds}, Get i y N → sc.rd.names.lookup y = some .local → swapsWith e (some (.Name y p2)) pos.line X.env = pure true → SetAt i (.v (.list ds)) ρ ρ' → nx ρ' → DS M X W (.Assign [.Name y p2] e pos) ρ nx R
  so : ∀ {i : Nat} {y : Str} {p2 pos : Pos} {ρ' : List Sl} {nx : List Sl → Prop} {R : REnds}, Get i y N → sc.rd.names.lookup y = some .local → swapsWith e (some (.Name y p2)) pos.line X.env = pure true → SetAt i (.ol ds) ρ ρ' → nx ρ' → DS M X W (.Assign [.Name y p2] e pos) ρ nx R
theorem DL.de (h : DL M N sc X W e ρ ds) : DE M X e ρ (.list ds) := h.dn.de
theorem DL.eq (h : DL M N sc X W e ρ ds) (q : ds = es') : DL M N sc X W e ρ es' := q ▸ h
theorem dl_lc {g : Nat → Option PyData} (c : Cn M k N sc X W) (hb : blkC N sc.rd scope own = true) (hi : DI M X tg iter ρ ds) (hp : ∀ X1, Cn M k N (inS scope sc) X1 W0 → PG X1 tg (gPat M.K p)) (hown : ∀ j ∈ p.slots, j ∈ own.map (·.2)) (hw : Wip (own.map (·.2)) ρ ρw)
    (h : Turns M k N sc scope tg elt ifs p ρw ds g) (hl : ds.length ≤ 10000000) (hf : ∀ x, foldedSetIterable iter X.env x = pure x := by intro _; rfl) : DL M N sc X W (.ListComp elt [⟨tg, iter, ifs, 0⟩] scope pos) ρ ((List.range ds.length).filterMap g) := by
  have ok : BlkOk X.N X.env.scope scope own := by rw [c.hN, c.hs]; exact blkOk_by hb
  have hg : ∀ (s : Shared) (H : Hp) (C : Addr) (cl : List (Str × Addr)) (fp : List Addr), PG (inX X scope s H C cl fp) tg (gPat M.K p) := fun s H C cl fp => hp _ (cn_in c ok.kind s H C cl fp)
  have ht : ∀ (s : Shared) (H : Hp) (C : Addr) (cl : List (Str × Addr)) (fp : List Addr), PTs (inX X scope s H C cl fp) ifs (fun σ H Q => ∀ s H0 C cl fp, semTs (inX X scope s H0 C cl fp) ifs σ H Q) := fun s H C cl fp => ⟨fun pins s0 σ H0 Q I q => q s H C cl fp pins s0 I⟩
  have he : ∀ (s : Shared) (H : Hp) (C : Addr) (cl : List (Str × Addr)) (fp : List Addr), PE (inX X scope s H C cl fp) elt (fun σ H Q => ∀ s H0 C cl fp, semE (inX X scope s H0 C cl fp) elt σ H Q) := fun s H C cl fp => ⟨fun pins s0 σ H0 Q I q => q s H C cl fp pins s0 I⟩
  refine ⟨?_, fun hi' hy hsw hr hn => ?_, fun hi' hy hsw hr hn => ?_⟩
  · exact dn_of (pe_lc c.calm (by rw [c.hN]; exact c.nd) pi_sem ok hg ht he hf) fun B F σ H I Q q => lc_run c ok.kind hi hown hw h hl I q
  · refine ds_of (ps_setLc c.calm (by rw [c.hN]; exact c.nd) (by rw [c.hN]; exact hi'.at) (by rw [c.hs]; exact hy) hsw pi_sem ok hg ht he hf) fun B F σ H I E f => lc_run c ok.kind hi hown hw h hl I fun D xs H' B' s hF I' al => ?_
    obtain ⟨s2, I2⟩ := I'.share hF
    refine f.nx _ _ H' _ hn (s.trans s2) ?_
    rw [← hr.eq.1]
    exact I2.setv _ hr.eq.2 (.lst upd_same (dpa_mono s2 al))
  · refine ds_of (ps_setLc c.calm (by rw [c.hN]; exact c.nd) (by rw [c.hN]; exact hi'.at) (by rw [c.hs]; exact hy) hsw pi_sem ok hg ht he hf) fun B F σ H I E f => lc_run c ok.kind hi hown hw h hl I fun D xs H' B' s hF I' al => ?_
    refine f.nx _ _ H' _ hn s ?_
    rw [← hr.eq.1]
    exact I'.setol hF al _ hr.eq.2
/-- over typed items, with a test -/
theorem filterMap_range {α β : Type} (f : α → Option β) : ∀ (xs : List α), (List.range xs.length).filterMap (fun i => (xs[i]?).bind f) = xs.filterMap f := fun xs => by
  induction xs with
  | nil => rfl
  | cons x r ih =>
    rw [List.length_cons, List.range_succ_eq_map, List.filterMap_cons, List.filterMap_map, List.filterMap_cons]
    have e : ((fun i => ((x :: r)[i]?).bind f) ∘ Nat.succ) = fun i => (r[i]?).bind f := rfl
    rw [e, ih]
    rfl
theorem filterMap_ite {α β : Type} (t : α → Bool) (f : α → β) (xs : List α) : xs.filterMap (fun a => if t a = true then some (f a) else none) = (xs.filter t).map f := by
  induction xs with
  | nil => rfl
  | cons x r ih =>
    rw [List.filterMap_cons, List.filter_cons]
    cases h : t x with
    | true => simp [ih]
    | false => simp [ih]
theorem dl_lcT {α : Type} {xs : List α} {enc f : α → PyData} {t : α → Bool} (c : Cn M k N sc X W) (hb : blkC N sc.rd scope own = true) (hi : DI M X tg iter ρ (xs.map enc)) (hp : ∀ X1, Cn M k N (inS scope sc) X1 W0 → PG X1 tg (gPat M.K p)) (hown : ∀ j ∈ p.slots, j ∈ own.map (·.2)) (hw : Wip (own.map (·.2)) ρ ρw)
    (h : ∀ a ∈ xs, ∃ ρ1, PSet1 p (enc a) ρw ρ1 ∧ ∀ X1, Cn M k N (inS scope sc) X1 W0 → DTs M X1 ifs ρ1 (t a) ∧ (t a = true → DE M X1 elt ρ1 (f a))) (hl : xs.length ≤ 10000000) (hf : ∀ x, foldedSetIterable iter X.env x = pure x := by intro _; rfl) :
    DL M N sc X W (.ListComp elt [⟨tg, iter, ifs, 0⟩] scope pos) ρ ((xs.filter t).map f) := by
  have e : (List.range (xs.map enc).length).filterMap (fun i => (xs[i]?).bind fun a => if t a = true then some (f a) else none) = (xs.filter t).map f := by
    rw [List.length_map, filterMap_range, filterMap_ite]
  rw [← e]
  refine dl_lc c hb hi hp hown hw (fun i d hd => ?_) (by rw [List.length_map]; exact hl) hf
  rw [List.getElem?_map] at hd
  cases hq : xs[i]? with
  | none => rw [hq] at hd; cases hd
  | some a =>
    rw [hq] at hd
    cases hd
    obtain ⟨ρ1, h1, h2⟩ := h a (List.mem_of_getElem? hq)
    refine ⟨ρ1, t a, h1, fun X1 c1 => ⟨(h2 X1 c1).1, fun z => ⟨f a, ?_, (h2 X1 c1).2 z⟩⟩, fun z => ?_⟩
    · show (if t a = true then some (f a) else none) = _
      rw [if_pos z]
    · show (if t a = true then some (f a) else none) = _
      rw [if_neg (by rw [z]; exact Bool.false_ne_true)]
theorem dl_lcM {α : Type} {xs : List α} {enc f : α → PyData} (c : Cn M k N sc X W) (hb : blkC N sc.rd scope own = true) (hi : DI M X tg iter ρ (xs.map enc)) (hp : ∀ X1, Cn M k N (inS scope sc) X1 W0 → PG X1 tg (gPat M.K p)) (hown : ∀ j ∈ p.slots, j ∈ own.map (·.2)) (hw : Wip (own.map (·.2)) ρ ρw)
    (h : ∀ a ∈ xs, ∃ ρ1, PSet1 p (enc a) ρw ρ1 ∧ ∀ X1, Cn M k N (inS scope sc) X1 W0 → DE M X1 elt ρ1 (f a)) (hl : xs.length ≤ 10000000) (hf : ∀ x, foldedSetIterable iter X.env x = pure x := by intro _; rfl) :
    DL M N sc X W (.ListComp elt [⟨tg, iter, [], 0⟩] scope pos) ρ (xs.map f) := by
  have e : (xs.filter fun _ => true).map f = xs.map f := by rw [List.filter_eq_self.mpr fun _ _ => rfl]
  rw [← e]
  exact dl_lcT c hb hi hp hown hw (fun a ha => by
    obtain ⟨ρ1, h1, h2⟩ := h a ha
    exact ⟨ρ1, h1, fun X1 c1 => ⟨dts_nil, fun _ => h2 X1 c1⟩⟩) hl hf
/-- y = [..], y a local -/
theorem ds_setL (c : Cn M k N sc X W) (hi : Get i y N) (h : DL M N sc X W (.ListComp elt [⟨tg, iter, ifs, 0⟩] scope p2) ρ ds) (hr : SetAt i (.v (.list ds)) ρ ρ') (hn : nx ρ') (hy : (sc.rd.names.lookup y == some .local && (p3.line == p2.line) && !(scope.names.any fun (n, k) => n == y && (k == .local || k == .cell))) = true := by decide +kernel) :
    DS M X W (.Assign [.Name y p3] (.ListComp elt [⟨tg, iter, ifs, 0⟩] scope p2) pos) ρ nx R := by
  rw [Bool.and_eq_true, Bool.and_eq_true, beq_iff_eq, Bool.not_eq_true'] at hy
  exact h.sv hi hy.1.1 (sw_true (by rw [c.hs]; exact c.kind) (by rw [c.hs]; exact hy.1.1) hy.1.2 hy.2) hr hn
theorem ds_setLN (c : Cn M k N sc X W) (hi : Get i y N) (h : DL M N sc X W (.ListComp elt [⟨tg, iter, ifs, 0⟩] scope p2) ρ ds) (hr : SetAt i (.ol ds) ρ ρ') (hn : nx ρ') (hy : (sc.rd.names.lookup y == some .local && (p3.line == p2.line) && !(scope.names.any fun (n, k) => n == y && (k == .local || k == .cell))) = true := by decide +kernel) :
    DS M X W (.Assign [.Name y p3] (.ListComp elt [⟨tg, iter, ifs, 0⟩] scope p2) pos) ρ nx R := by
  rw [Bool.and_eq_true, Bool.and_eq_true, beq_iff_eq, Bool.not_eq_true'] at hy
  exact h.so hi hy.1.1 (sw_true (by rw [c.hs]; exact c.kind) (by rw [c.hs]; exact hy.1.1) hy.1.2 hy.2) hr hn
/-- y = [..], y a cell -/
theorem sw_false {l : Nat} (c : Cv M N sc X) (hy : (sc.rd.names.lookup y == some .local) = false) : swapsWith (.ListComp elt [⟨tg, iter, ifs, 0⟩] scope p2) (some (.Name y p3)) l X.env = pure false := by
  have ky : (X.env.kindOf y == some .local) = false := by
    show (X.env.scope.names.lookup y == some .local) = false
    rw [c.hs]
    exact hy
  unfold swapsWith
  simp only [ky, Bool.and_false, Bool.false_and]
theorem ds_setC (c : Cn M k N sc X W) (hi : Get i y N) (h : DL M N sc X W (.ListComp elt [⟨tg, iter, ifs, 0⟩] scope p2) ρ ds) (hr : SetAt i (.v (.list ds)) ρ ρ') (hn : nx ρ') (hy : (sc.rd.names.lookup y == some .local) = false := by decide +kernel) (hl : locB sc y = true := by decide +kernel) :
    DS M X W (.Assign [.Name y p3] (.ListComp elt [⟨tg, iter, ifs, 0⟩] scope p2) pos) ρ nx R := ds_set c.toCv hi h.de hr hn (sw_false c.toCv hy) hl
/-! ### lists grown -/
theorem tyV_lst {K : PySem.W.Frag} {H : Hp} {a : Addr} {xs : List V} (h : H a = some (.lst xs)) : tyV K "list" (.ref a) H := .inl ⟨rfl, xs, SqL.of h⟩
theorem EnvB.olst {K : PySem.W.Frag} {B F H : Hp} {σ : L2.St} (I : EnvB K B F H σ ρ) (hi : Get i (.ol ds) ρ) : ∃ l xs, σ[i]? = some (some (.ref l)) ∧ H l = some (.lst xs) ∧ DqAll K B xs ds ∧ ∀ xs' ds', DqAll K B xs' ds' → EnvB K B F (upd H l (.lst xs')) σ (ρ.set i (.ol ds')) := I.mutol hi.at
/-- xs.append(e) -/
theorem ds_append (c : Cv M N sc X) (hi : Get i x N) (hd : Get i (.ol ds) ρ) (he : DE M X e ρ d) (hr : SetAt i (.ol (ds ++ [d])) ρ ρ') (hz : ds.length < 10000000) (hn : nx ρ') (hv : (visB sc x && okN x) = true := by decide +kernel)
    (hfew : ((backTo p3 (starEach [e] X.env)).all (fun x => !x.1) && (backToKw p3 (keywordEach [] X.env)).all (fun x => x.1.isSome) && decide ([e].length + ([] : List Keyword).length + (if ([] : List Keyword).isEmpty then 0 else 1) < 30)) = true := by rfl)
    (hline : (apos.endLine == p3.line) = true := by rfl) (hs : starEach (e :: []) X.env = (false, eval e X.env) :: starEach [] X.env := by rfl) : DS M X W (.Expr (.Call (.Attribute (.Name x p2) "append" apos) [e] [] p3) pos) ρ nx R := by
  rw [Bool.and_eq_true] at hv
  refine ds_of (ps_expr (pe_bm PySem.F.plainAttrs_list PySem.F.slot_list_append PySem.F.type_list_append mt_append (pe_var (i := i) (by rw [c.hN]; exact hi.at) (c.vis hv.1) (okN1 hv.2) (okN2 hv.2)) (pa_cons pe_sem pa_nil hs) rfl hfew hline hs)) fun B F σ H I E f => ?_
  obtain ⟨l, xs, hσ, hl, al, _⟩ := EnvB.olst I hd
  refine ⟨.ref l, hσ, tyV_lst hl, he B F σ H I _ fun v H' B' s I' p => ?_⟩
  obtain ⟨l', xs', hσ', hl', al', hm⟩ := EnvB.olst I' hd
  rw [hσ] at hσ'
  cases hσ'
  refine ⟨l, xs', v, rfl, rfl, hl', ?_, f.nx _ _ _ B' hn s ?_⟩
  · have h3 : sizeLine = 16777216 := sizeLine_eq
    rw [dpa_len al']
    omega
  · rw [← hr.eq.1]
    exact hm _ _ (dpa_app al' (.cons p .nil))
/-- xs.extend(e), e a list -/
theorem ds_extend (c : Cv M N sc X) (hi : Get i x N) (hd : Get i (.ol ds) ρ) (he : DE M X e ρ (.list es')) (hr : SetAt i (.ol (ds ++ es')) ρ ρ') (hz : ds.length + es'.length ≤ 10000000) (hn : nx ρ') (hv : (visB sc x && okN x) = true := by decide +kernel)
    (hfew : ((backTo p3 (starEach [e] X.env)).all (fun x => !x.1) && (backToKw p3 (keywordEach [] X.env)).all (fun x => x.1.isSome) && decide ([e].length + ([] : List Keyword).length + (if ([] : List Keyword).isEmpty then 0 else 1) < 30)) = true := by rfl)
    (hline : (apos.endLine == p3.line) = true := by rfl) (hs : starEach (e :: []) X.env = (false, eval e X.env) :: starEach [] X.env := by rfl) : DS M X W (.Expr (.Call (.Attribute (.Name x p2) "extend" apos) [e] [] p3) pos) ρ nx R := by
  rw [Bool.and_eq_true] at hv
  refine ds_of (ps_expr (pe_bm PySem.F.plainAttrs_list PySem.F.slot_list_extend PySem.F.type_list_extend mt_extend (pe_var (i := i) (by rw [c.hN]; exact hi.at) (c.vis hv.1) (okN1 hv.2) (okN2 hv.2)) (pa_cons pe_sem pa_nil hs) rfl hfew hline hs)) fun B F σ H I E f => ?_
  obtain ⟨l, xs, hσ, hl, al, _⟩ := EnvB.olst I hd
  refine ⟨.ref l, hσ, tyV_lst hl, he B F σ H I _ fun v H' B' s I' p => ?_⟩
  obtain ⟨l', xs', hσ', hl', al', hm⟩ := EnvB.olst I' hd
  rw [hσ] at hσ'
  cases hσ'
  cases p with
  | lst sq t =>
    refine ⟨l, _, xs', _, rfl, rfl, hl', I'.bh _ _ sq, ?_, f.nx _ _ _ B' hn s ?_⟩
    · have h3 : sizeLine = 16777216 := sizeLine_eq
      rw [dpa_len al', dpa_len t]
      omega
    · rw [← hr.eq.1]
      exact hm _ _ (dpa_app al' t)
theorem de_tupleO {q : Pos} (c : Cv M N sc X) (hm : M.mg "tuple" = none) (hi : Get i x N) (hd : Get i (.ol ds) ρ) (hv : (visB sc x && okN x) = true := by decide +kernel) (hg : glB sc "tuple" = true := by decide +kernel) : DE M X (.Call (.Name "tuple" q) [.Name x p2] [] pos) ρ (.tuple ds) := by
  rw [Bool.and_eq_true] at hv
  refine de_of (pe_callTy call_tuple_of (c.gl hg) (by rw [c.eg]; exact hm) boot_tuple (pa_cons (pe_var (i := i) (by rw [c.hN]; exact hi.at) (c.vis hv.1) (okN1 hv.2) (okN2 hv.2)) pa_nil)) fun B F σ H I Q k => ?_
  obtain ⟨l, xs, h1, h2, h3, _⟩ := EnvB.olst I hd
  refine ⟨.ref l, h1, l, xs, rfl, .inl ⟨SqL.of h2, fun a ha => ?_⟩⟩
  obtain ⟨s2, I2⟩ := I.new (o := .tup xs) ha
  exact k _ _ _ s2 I2 (.tup (.inl (.inl upd_same)) (dpa_mono s2 h3))
theorem de_lenO {q : Pos} (c : Cv M N sc X) (hm : M.mg "len" = none) (hi : Get i x N) (hd : Get i (.ol ds) ρ) (hv : (visB sc x && okN x) = true := by decide +kernel) (hg : glB sc "len" = true := by decide +kernel) : DE M X (.Call (.Name "len" q) [.Name x p2] [] pos) ρ (.int ds.length) := by
  rw [Bool.and_eq_true] at hv
  refine de_of (pe_callB call_len_seq (c.gl hg) (by rw [c.eg]; exact hm) PySem.boot_len (pa_cons (pe_var (i := i) (by rw [c.hN]; exact hi.at) (c.vis hv.1) (okN1 hv.2) (okN2 hv.2)) pa_nil)) fun B F σ H I Q k => ?_
  obtain ⟨l, xs, h1, h2, h3, _⟩ := EnvB.olst I hd
  refine ⟨.ref l, h1, l, xs, rfl, .inl (SqL.of h2), ?_⟩
  rw [dpa_len h3]
  exact k _ _ _ (Same.refl B) I (.int _)
theorem de_ixO {n : Int} (c : Cv M N sc X) (hi : Get i x N) (hd : Get i (.ol ds) ρ) (hb : DE M X b ρ (.int n)) (h : atI ds n = some d) (hv : (visB sc x && okN x) = true := by decide +kernel) (hs : PlainIx b := by intro _ _; rfl) : DE M X (.Subscript (.Name x p2) b pos) ρ d := by
  rw [Bool.and_eq_true] at hv
  refine de_of (pe_ix ix_list (pe_var (i := i) (by rw [c.hN]; exact hi.at) (c.vis hv.1) (okN1 hv.2) (okN2 hv.2)) pe_sem hs) fun B F σ H I Q k => ?_
  obtain ⟨l, xs, h1, h2, h3, _⟩ := EnvB.olst I hd
  refine ⟨.ref l, h1, hb B F σ H I _ fun v H' B' s I' p => ?_⟩
  cases p
  obtain ⟨l', xs', h1', h2', h3', _⟩ := EnvB.olst I' hd
  rw [h1] at h1'
  cases h1'
  obtain ⟨w, hw, hdw⟩ := atI_dp h3' h
  exact ⟨l, xs', n, w, rfl, rfl, SqL.of h2', hw, k _ _ _ s I' hdw⟩
end
end Dl

namespace Dl
open PySem PySem.Spec PyProof.Rows L2

/-! ### order of texts -/
theorem perm_sorted_eq {α : Type} {r : α → α → Prop} (as : ∀ a b, r a b → r b a → a = b) : ∀ {l l' : List α}, l.Perm l' → l.Pairwise r → l'.Pairwise r → l = l'
  | [], l', hp, _, _ => (List.nil_perm.mp hp).symm
  | a :: l, [], hp, _, _ => by have := hp.length_eq; simp at this
  | a :: l, b :: l', hp, h1, h2 => by
    have ha : a ∈ b :: l' := hp.mem_iff.mp List.mem_cons_self
    have hb : b ∈ a :: l := hp.mem_iff.mpr List.mem_cons_self
    rw [List.pairwise_cons] at h1 h2
    have e : a = b := by
      rcases List.mem_cons.mp ha with z | z
      · exact z
      · rcases List.mem_cons.mp hb with w | w
        · exact w.symm
        · exact as a b (h1.1 b w) (h2.1 a z)
    subst e
    rw [perm_sorted_eq as (List.Perm.cons_inv hp) h1.2 h2.2]
abbrev Sg := List Nat
def leS (a b : Sg) : Bool := !decide (b < a)
theorem leS_total (a b : Sg) : (leS a b || leS b a) = true := by
  unfold leS
  by_cases h : b < a
  · have h' : ¬ a < b := fun z => List.lt_irrefl a (List.lt_trans z h)
    simp [h, h']
  · simp [h]
theorem leS_trans (a b c : Sg) (h1 : leS a b = true) (h2 : leS b c = true) : leS a c = true := by
  unfold leS at *
  simp only [Bool.not_eq_true', decide_eq_false_iff_not] at *
  intro h
  by_cases z : c < b
  · exact h2 z
  · rcases (List.le_iff_lt_or_eq (l₁ := b) (l₂ := c)).mp z with q | q
    · exact h1 (List.lt_trans q h)
    · subst q
      exact h1 h
theorem leS_anti (a b : Sg) (h1 : leS a b = true) (h2 : leS b a = true) : a = b := by
  unfold leS at *
  simp only [Bool.not_eq_true', decide_eq_false_iff_not] at *
  exact List.le_antisymm h1 h2
/-- the sorted list of texts -/
def sortS (l : List Sg) : List Sg := l.mergeSort leS
theorem sortS_perm (l : List Sg) : (sortS l).Perm l := List.mergeSort_perm l leS
theorem sortS_pw (l : List Sg) : (sortS l).Pairwise (fun a b => leS a b = true) := List.pairwise_mergeSort leS_trans leS_total l
theorem sortS_uniq {l ys : List Sg} (hp : ys.Perm l) (hs : ys.Pairwise (fun a b => leS a b = true)) : ys = sortS l := perm_sorted_eq leS_anti (hp.trans (sortS_perm l).symm) hs (sortS_pw l)
theorem rising_pw : ∀ (r : List Sg) (a : Sg), risingS ⟨a.toArray⟩ (r.map fun t => ⟨t.toArray⟩) = true → (a :: r).Pairwise (fun a b => leS a b = true)
  | [], a, _ => by simp
  | b :: r, a, h => by
    rw [List.map_cons] at h
    have h' := Bool.and_eq_true_iff.mp h
    have ih := rising_pw r b h'.2
    have hab : leS a b = true := by
      have e := h'.1
      rw [ltCps_eq] at e
      exact e
    rw [List.pairwise_cons]
    refine ⟨fun x hx => ?_, ih⟩
    rcases List.mem_cons.mp hx with z | z
    · rw [z]; exact hab
    · exact leS_trans a b x hab ((List.pairwise_cons.mp ih).1 x z)
theorem sortedS_pw (l : List Sg) (h : sortedS (l.map fun t => ⟨t.toArray⟩) = true) : l.Pairwise (fun a b => leS a b = true) := by
  cases l with
  | nil => simp
  | cons a r => exact rising_pw r a h
theorem strs_of (l : List Str) : ∃ ts : List Sg, l = ts.map fun t => (⟨t.toArray⟩ : Str) := ⟨l.map fun x => x.cps.toList, by
  rw [List.map_map]
  have : ((fun t : Sg => (⟨t.toArray⟩ : Str)) ∘ fun x : Str => x.cps.toList) = id := by funext x; simp
  rw [this, List.map_id]⟩
theorem map_str_inj {l l' : List Sg} (h : (l.map fun t => (⟨t.toArray⟩ : Str)).Perm (l'.map fun t => ⟨t.toArray⟩)) : l.Perm l' := by
  have h2 := h.map (fun x : Str => x.cps.toList)
  rw [List.map_map, List.map_map] at h2
  have e : ((fun x : Str => x.cps.toList) ∘ fun t : Sg => (⟨t.toArray⟩ : Str)) = id := by funext x; simp
  rw [e, List.map_id, List.map_id] at h2
  exact h2

/-! ### dicts that a slot owns -/
theorem EnvB.seto {K : PySem.W.Frag} {B F H : Hp} {σ : L2.St} {ρ : List Sl} {p : Addr} {o : HO} {s : Sl} {i : Nat} (I : EnvB K B (upd F p o) H σ ρ) (h : F p = none) (hh : ∀ O : Own, O p = some (i, none) → Hold K B H O i (.ref p) s) (hi : i < ρ.length) :
    EnvB K B F H (σ.set i (some (.ref p))) (ρ.set i s) := by
  have hp : H p = some o := I.fh p _ upd_same
  have hb : B p = none := I.dj p _ upd_same
  have sf : Same F (upd F p o) := same_upd h
  have hi' : i < σ.length := by rw [I.ln]; exact hi
  refine ⟨by rw [List.length_set, List.length_set, I.ln], I.bh, sf.trans I.fh, fun a u e => I.dj a u (sf a u e), ?_⟩
  obtain ⟨O, h1, h2⟩ := I.own
  have hq : ∀ a t, O a = some t → a ≠ p := fun a t e z => by
    have q := (h1 a t e).2.1
    rw [z, upd_same] at q
    cases q
  refine ⟨fun a => if a = p then some (i, none) else O a, fun a t e => ?_, fun j s' hs => ?_⟩
  · by_cases ha : a = p
    · rw [ha]
      exact ⟨hb, h, by rw [hp]; simp⟩
    · dsimp only at e
      rw [if_neg ha] at e
      obtain ⟨q1, q2, q3⟩ := h1 a t e
      rw [upd_ne ha] at q2
      exact ⟨q1, q2, q3⟩
  · by_cases hj : i = j
    · subst hj
      rw [List.getElem?_set_self hi] at hs
      cases hs
      exact .inr ⟨.ref p, by rw [List.getElem?_set_self hi'], hh _ (if_pos rfl)⟩
    · rw [List.getElem?_set_ne hj] at hs ⊢
      rcases h2 j s' hs with z | ⟨x, hx, hh⟩
      · exact .inl z
      · refine .inr ⟨x, hx, hold_mono (Same.refl B) (fun a t e => ⟨?_, rfl⟩) hh⟩
        rw [if_neg (hq a _ e)]
        exact e
def putD {κ : Type} [DecidableEq κ] (kvs : List (κ × PyData)) (k : κ) (v : PyData) : List (κ × PyData) :=
  if (kvs.any fun kv => decide (kv.1 = k)) = true then kvs.map (fun kv => if kv.1 = k then (kv.1, v) else kv) else kvs ++ [(k, v)]
def getD {κ : Type} [DecidableEq κ] (kvs : List (κ × PyData)) (k : κ) : Option PyData := (kvs.find? fun kv => decide (kv.1 = k)).map (·.2)
section
variable {κ : Type} [DecidableEq κ] {K : PySem.W.Frag} {B : Hp} {k : κ} {v : V} {d : PyData}
theorem kdp_any {ys : List (κ × V)} {kvs : List (κ × PyData)} (h : KDp K B ys kvs) : (ys.any fun kv => decide (kv.1 = k)) = (kvs.any fun kv => decide (kv.1 = k)) := by
  induction h with
  | nil => rfl
  | cons r t ih => rw [List.any_cons, List.any_cons, ih, r.1]
theorem kdp_map {ys : List (κ × V)} {kvs : List (κ × PyData)} (h : KDp K B ys kvs) (hv : Dq K B v d) : KDp K B (ys.map fun kv => if kv.1 = k then (kv.1, v) else kv) (kvs.map fun kv => if kv.1 = k then (kv.1, d) else kv) := by
  induction h with
  | nil => exact .nil
  | cons r t ih =>
    rename_i a b as bs
    rw [List.map_cons, List.map_cons]
    refine .cons ?_ ih
    by_cases e : a.1 = k
    · rw [if_pos e, if_pos (by rw [← r.1]; exact e)]
      exact ⟨r.1, hv⟩
    · rw [if_neg e, if_neg (by rw [← r.1]; exact e)]
      exact r
theorem kdp_snoc {ys : List (κ × V)} {kvs : List (κ × PyData)} (h : KDp K B ys kvs) (hv : Dq K B v d) : KDp K B (ys ++ [(k, v)]) (kvs ++ [(k, d)]) := by
  induction h with
  | nil => exact .cons ⟨rfl, hv⟩ .nil
  | cons r t ih => exact .cons r ih
theorem kdp_put {ys : List (κ × V)} {kvs : List (κ × PyData)} (h : KDp K B ys kvs) (hv : Dq K B v d) : KDp K B (putK ys k v) (putD kvs k d) := by
  unfold putK putD
  rw [kdp_any h]
  split
  · exact kdp_map h hv
  · exact kdp_snoc h hv
theorem kdp_get {ys : List (κ × V)} {kvs : List (κ × PyData)} (h : KDp K B ys kvs) : (valV ys k = none ∧ getD kvs k = none) ∨ ∃ v d, valV ys k = some v ∧ getD kvs k = some d ∧ Dq K B v d := by
  induction h with
  | nil => exact .inl ⟨rfl, rfl⟩
  | cons r t ih =>
    rename_i a b as bs
    by_cases e : a.1 = k
    · refine .inr ⟨a.2, b.2, valV_pos e, ?_, r.2⟩
      unfold getD
      rw [List.find?_cons, decide_eq_true (show b.1 = k by rw [← r.1]; exact e)]
      rfl
    · have e' : ¬ b.1 = k := by rw [← r.1]; exact e
      have e2 : getD (b :: bs) k = getD bs k := by
        unfold getD
        rw [List.find?_cons, decide_eq_false e']
      rw [valV_neg e, e2]
      exact ih
theorem kdp_len {ys : List (κ × V)} {kvs : List (κ × PyData)} (h : KDp K B ys kvs) : ys.length = kvs.length := Paired.length h
theorem kdp_keys {ys : List (κ × V)} {kvs : List (κ × PyData)} (h : KDp K B ys kvs) : ys.map (·.1) = kvs.map (·.1) := by
  induction h with
  | nil => rfl
  | cons r t ih => rw [List.map_cons, List.map_cons, ih, r.1]
end
theorem EnvB.odict {K : PySem.W.Frag} {B F H : Hp} {σ : L2.St} {ρ : List Sl} {i : Nat} {kvs : List (Key × PyData)} (I : EnvB K B F H σ ρ) (hg : Get i (.od kvs) ρ) :
    ∃ l ys, σ[i]? = some (some (.ref l)) ∧ H l = some (.dK ys) ∧ KDp K B ys kvs ∧ ∀ ys' kvs', KDp K B ys' kvs' → EnvB K B F (upd H l (.dK ys')) σ (ρ.set i (.od kvs')) := by
  have hi := hg.at
  obtain ⟨O, h1, h2⟩ := I.own
  rcases h2 i _ hi with z | ⟨x, hx, l, xs, e1, e2, e3, e4⟩
  · cases z
  · subst e1
    refine ⟨l, xs, hx, e3, e4, fun xs' ds' hd => ?_⟩
    obtain ⟨q1, q2, q3⟩ := h1 l _ e2
    refine ⟨by rw [List.length_set, I.ln], fun a u e => ?_, fun a u e => ?_, I.dj, O, fun a t e => ?_, fun j s hs => ?_⟩
    · rw [upd_ne (ne_of_none e q1)]; exact I.bh a u e
    · rw [upd_ne (ne_of_none e q2)]; exact I.fh a u e
    · refine ⟨(h1 a t e).1, (h1 a t e).2.1, ?_⟩
      by_cases ha : a = l
      · rw [ha, upd_same]; simp
      · rw [upd_ne ha]; exact (h1 a t e).2.2
    · by_cases hj : i = j
      · subst hj
        have hl : i < ρ.length := (List.getElem?_eq_some_iff.mp hi).1
        rw [List.getElem?_set_self hl] at hs
        cases hs
        exact .inr ⟨.ref l, hx, l, xs', rfl, e2, upd_same, hd⟩
      · rw [List.getElem?_set_ne hj] at hs
        rcases h2 j s hs with z | ⟨x, hx, hh⟩
        · exact .inl z
        · refine .inr ⟨x, hx, hold_mono (Same.refl B) (fun a t e => ⟨e, upd_ne fun z => ?_⟩) hh⟩
          subst z
          rw [e2] at e
          injection e with e
          injection e with e _
          exact hj e
theorem dqa_strs {K : PySem.W.Frag} {B : Hp} : ∀ l : List Sg, DqAll K B (l.map fun t => V.str ⟨t.toArray⟩) (l.map S)
  | [] => .nil
  | _ :: r => .cons (.str _) (dqa_strs r)
/-- data that are keys -/
def keyD : Key → PyData
  | .inl n => .int n
  | .inr x => .str x
theorem keyD_inv {K : PySem.W.Frag} {B : Hp} {v : V} {q : Key} (h : Dq K B v (keyD q)) : v = kV q := by
  cases q with
  | inl n => cases h; rfl
  | inr x => cases h; rfl
section
variable {M : Md} {X : Cx} {W : WX} {N : List Str} {sc : Sco} {scope : Scope} {k : Nat} {ρ ρ' ρ'' ρw : List Sl} {d d1 d2 d3 d' : PyData} {ds es' : List PyData} {e a b c' o elt tg iter : Expr} {es ifs : List Expr} {pos p2 p3 p4 p5 apos : Pos} {x y z : Str} {bb b1 b2 : Bool} {i j l : Nat} {nx : List Sl → Prop} {R : REnds} {kvs : List (Key × PyData)} {q : Key} {m n : Int}
/-- x = {} -/
theorem ds_dnew (c : Cv M N sc X) (hi : Get i x N) (hr : SetAt i (.od []) ρ ρ') (hn : nx ρ') (hl : locB sc x = true := by decide +kernel) : DS M X W (.Assign [.Name x p2] (.Dict [] [] p3) pos) ρ nx R :=
  ds_of (ps_set (by rw [c.hN]; exact c.nd) (by rw [c.hN]; exact hi.at) (c.loc hl).1 pe_dnewK rfl (c.loc hl).2) fun B F σ H I E f => fun p hp => by
    refine f.nx _ _ _ B hn (Same.refl B) ?_
    rw [← hr.eq.1]
    exact EnvB.seto (o := .dK []) (I.lay hp) (I.fh.free hp) (fun O hO => ⟨p, [], rfl, hO, upd_same, .nil⟩) hr.eq.2
/-- x[a] = b -/
theorem ds_dput (c : Cv M N sc X) (hi : Get i x N) (hd : Get i (.od kvs) ρ) (ha : DE M X a ρ (keyD q)) (hb : DE M X b ρ d) (hr : SetAt i (.od (putD kvs q d)) ρ ρ') (hz : kvs.length < 10000000) (hn : nx ρ') (hs : swapsWith b (some (.Subscript (.Name x p2) a p3)) pos.line X.env = pure false := by rfl) (hv : (visB sc x && okN x) = true := by decide +kernel) :
    DS M X W (.Assign [.Subscript (.Name x p2) a p3] b pos) ρ nx R := by
  rw [Bool.and_eq_true] at hv
  refine ds_of (ps_dput (by have := c.un; omega) (pe_var (i := i) (by rw [c.hN]; exact hi.at) (c.vis hv.1) (okN1 hv.2) (okN2 hv.2)) pe_sem pe_sem hs) fun B F σ H I E f => ?_
  refine hb B F σ H I _ fun v H1 B1 s1 I1 p1 => ?_
  obtain ⟨l0, _, h0, _⟩ := EnvB.odict I1 hd
  refine ⟨.ref l0, h0, ha B1 F σ H1 I1 _ fun y H2 B2 s2 I2 p2 => ?_⟩
  obtain ⟨l, ys, hσ, hl, hk, hm⟩ := EnvB.odict I2 hd
  rw [h0] at hσ
  cases hσ
  rw [keyD_inv p2]
  refine ⟨l0, _, rfl, DPut.k hl (by rw [kdp_len hk]; have h3 : sizeLine = 16777216 := sizeLine_eq; omega), f.nx _ _ _ B2 hn (s1.trans s2) ?_⟩
  rw [← hr.eq.1]
  exact hm _ _ (kdp_put hk (dp_mono s2 p1))
/-- x[a] -/
theorem de_dget (c : Cv M N sc X) (hi : Get i x N) (hd : Get i (.od kvs) ρ) (ha : DE M X a ρ (keyD q)) (hq : getD kvs q = some d) (hs : NoSl a := by intro _ _; rfl) (hv : (visB sc x && okN x) = true := by decide +kernel) : DE M X (.Subscript (.Name x p2) a pos) ρ d := by
  rw [Bool.and_eq_true] at hv
  refine de_of (pe_dget (by have := c.un; omega) (pe_var (i := i) (by rw [c.hN]; exact hi.at) (c.vis hv.1) (okN1 hv.2) (okN2 hv.2)) pe_sem hs) fun B F σ H I Q k => ?_
  obtain ⟨l0, _, h0, _⟩ := EnvB.odict I hd
  refine ⟨.ref l0, h0, ha B F σ H I _ fun y H2 B2 s2 I2 p2 => ?_⟩
  obtain ⟨l, ys, hσ, hl, hk, hm⟩ := EnvB.odict I2 hd
  rw [h0] at hσ
  cases hσ
  rw [keyD_inv p2]
  rcases kdp_get (k := q) hk with ⟨_, z⟩ | ⟨v, d0, e1, e2, e3⟩
  · rw [hq] at z; cases z
  · rw [hq] at e2
    cases e2
    exact ⟨l0, v, rfl, by rw [← e1]; exact DGet.k hl, k v _ _ s2 I2 e3⟩
/-- x.get(a, b) -/
theorem de_dget2 (c : Cv M N sc X) (hi : Get i x N) (hd : Get i (.od kvs) ρ) (ha : DE M X a ρ (keyD q)) (hb : DE M X b ρ d) (hm : M2 X (.Name x p2) "get" apos a b pos) (hv : (visB sc x && okN x) = true := by decide +kernel) : DE M X (.Call (.Attribute (.Name x p2) "get" apos) [a, b] [] pos) ρ ((getD kvs q).getD d) := by
  rw [Bool.and_eq_true] at hv
  refine de_of (pe_dget2 (by have := c.un; omega) (pe_var (i := i) (by rw [c.hN]; exact hi.at) (c.vis hv.1) (okN1 hv.2) (okN2 hv.2)) pe_sem pe_sem hm) fun B F σ H I Q k => ?_
  obtain ⟨l0, ys0, h0, hl0, _⟩ := EnvB.odict I hd
  refine ⟨.ref l0, h0, l0, rfl, .inl ⟨_, .inl hl0⟩, ha B F σ H I _ fun y H2 B2 s2 I2 p2 => hb B2 F σ H2 I2 _ fun w H3 B3 s3 I3 p3 => ?_⟩
  obtain ⟨l, ys, hσ, hl, hk, hm⟩ := EnvB.odict I3 hd
  rw [h0] at hσ
  cases hσ
  rw [keyD_inv p2]
  refine ⟨_, DGet.k hl, ?_⟩
  rcases kdp_get (k := q) hk with ⟨z1, z2⟩ | ⟨v, d0, e1, e2, e3⟩
  · rw [z1]
    rw [z2] at k
    exact k w _ _ (s2.trans s3) I3 p3
  · rw [e1]
    rw [e2] at k
    exact k v _ _ (s2.trans s3) I3 e3
/-- sorted(x), x a dict of fewer than 64 texts -/
theorem de_sortedD {α : Type} {ts : List α} {f : α → Sg} {g : α → PyData} (c : Cn M k N sc X W) (hm : M.mg "sorted" = none) (hi : Get i x N) (hd : Get i (.od (ts.map fun t => (Sum.inr ⟨(f t).toArray⟩, g t))) ρ) (hz : ts.length < 64) (hv : (visB sc x && okN x) = true := by decide +kernel) (hg : glB sc "sorted" = true := by decide +kernel) :
    DE M X (.Call (.Name "sorted" p3) [.Name x p2] [] pos) ρ (.list ((sortS (ts.map f)).map S)) := by
  rw [Bool.and_eq_true] at hv
  refine de_of (pe_callB (call_sortedD c.calm) (c.gl hg) (by rw [c.eg]; exact hm) PyProof.Rows.boot_sorted (pa_cons (pe_var (i := i) (by rw [c.hN]; exact hi.at) (c.vis hv.1) (okN1 hv.2) (okN2 hv.2)) pa_nil)) fun B F σ H I Q k => ?_
  obtain ⟨l, ys, hσ, hl, hk, _⟩ := EnvB.odict I hd
  have ek : ys.map (·.1) = ((ts.map f).map fun t => (⟨t.toArray⟩ : Str)).map Sum.inr := by
    rw [kdp_keys hk, List.map_map, List.map_map, List.map_map]
    rfl
  refine ⟨.ref l, hσ, l, ys, (ts.map f).map fun t => (⟨t.toArray⟩ : Str), rfl, .inl hl, ek, by rw [List.length_map, List.length_map]; exact hz, fun zs p hp hs hf => ?_⟩
  obtain ⟨us, rfl⟩ := strs_of zs
  have e : us = sortS (ts.map f) := sortS_uniq (map_str_inj hp) (sortedS_pw us hs)
  subst e
  obtain ⟨s2, I2⟩ := I.new (o := .lst _) hf
  refine k _ _ _ s2 I2 (.lst upd_same ?_)
  rw [List.map_map]
  exact dqa_strs _
/-! ### all, any, sum -/
theorem bools_inv {α : Type} {K : PySem.W.Frag} {B : Hp} {xs : List α} {t : α → Bool} {vs : List V} (h : DqAll K B vs (xs.map fun a => .bool (t a))) : vs = (xs.map t).map V.bl := by
  have e := dqa_map_inv (ev := fun a => V.bl (t a)) (fun a v h => inv_bl B v h) h
  rw [e, List.map_map]
  rfl
theorem cl_all {α : Type} {xs : List α} {t : α → Bool} (hc : X.calm = true) : Cl M X (.builtin "all") [.list (xs.map fun a => .bool (t a))] (.bool (xs.all t)) := ⟨_, cr_all hc, fun B F σ H ρ vs I p Q q => by
  obtain ⟨v, rfl, p1⟩ := inv_all1 p
  cases p1 with
  | lst sq al =>
    have e := bools_inv al
    subst e
    refine ⟨_, xs.map t, rfl, SqL.of (I.bh _ _ sq), ?_⟩
    rw [List.all_map]
    exact q _ _ _ (Same.refl B) I (.bl _)⟩
theorem cl_any {α : Type} {xs : List α} {t : α → Bool} (hc : X.calm = true) : Cl M X (.builtin "any") [.list (xs.map fun a => .bool (t a))] (.bool (xs.any t)) := ⟨_, cr_any hc, fun B F σ H ρ vs I p Q q => by
  obtain ⟨v, rfl, p1⟩ := inv_all1 p
  cases p1 with
  | lst sq al =>
    have e := bools_inv al
    subst e
    refine ⟨_, xs.map t, rfl, SqL.of (I.bh _ _ sq), ?_⟩
    rw [List.any_map]
    exact q _ _ _ (Same.refl B) I (.bl _)⟩
theorem cl_sum {α : Type} {xs : List α} {t : α → Int} (hc : X.calm = true) : Cl M X (.builtin "sum") [.list (xs.map fun a => .int (t a))] (.int (xs.map t).sum) := ⟨_, cr_sum hc, fun B F σ H ρ vs I p Q q => by
  obtain ⟨v, rfl, p1⟩ := inv_all1 p
  cases p1 with
  | lst sq al =>
    have e := dqa_map_inv (ev := fun a => V.int (t a)) (fun a v h => inv_int B v h) al
    have e2 : (xs.map fun a => V.int (t a)) = (xs.map t).map V.int := by rw [List.map_map]; rfl
    rw [e2] at e
    subst e
    exact ⟨_, xs.map t, rfl, SqL.of (I.bh _ _ sq), q _ _ _ (Same.refl B) I (.int _)⟩⟩
/-! ### str(0), str(1), int(sign) -/
theorem cl_strBit (h : m = 0 ∨ m = 1) : Cl M X (.type "str") [.int m] (S [48 + m.toNat]) := ⟨_, call_str_int, fun B F σ H ρ vs I p Q q => by
  obtain ⟨v, rfl, p1⟩ := inv_all1 p
  cases p1
  refine ⟨m, rfl, ?_, ?_⟩
  · rcases h with rfl | rfl <;> decide
  · have e : (PySem.Str.ofString (toString m)) = ⟨[48 + m.toNat].toArray⟩ := by rcases h with rfl | rfl <;> decide +kernel
    rw [e]
    exact q _ _ _ (Same.refl B) I (.str _)⟩
theorem cl_intBool {b : Bool} : Cl M X (.type "int") [.bool b] (.int (if b = true then 1 else 0)) := ⟨_, call_int1, fun B F σ H ρ vs I p Q q => by
  obtain ⟨v, rfl, p1⟩ := inv_all1 p
  cases p1
  exact .inr ⟨b, rfl, q _ _ _ (Same.refl B) I (.int _)⟩⟩
theorem cl_intSign {q : Nat} (h : q = 48 ∨ q = 49) : Cl M X (.type "int") [S [q]] (.int ((q : Int) - 48)) := ⟨_, call_int_str, fun B F σ H ρ vs I p Q k => by
  obtain ⟨v, rfl, p1⟩ := inv_all1 p
  cases p1
  refine ⟨_, (q : Int) - 48, rfl, ?_, (by show 1 ≤ 640; decide), k _ _ _ (Same.refl B) I (.int _)⟩
  rcases h with rfl | rfl <;> decide +kernel⟩
end
end Dl

namespace Dl
open PySem PySem.Spec PyProof.Rows L2

/-! ### isinstance -/
def tyD : PyData → String
  | .none => "NoneType"
  | .bool _ => "bool"
  | .int _ => "int"
  | .str _ => "str"
  | .list _ => "list"
  | .tuple _ => "tuple"
  | .dict _ => "list"
theorem tyx_of {K : PySem.W.Frag} {B H : Hp} {v : V} {d : PyData} (e : Same B H) (p : Dq K B v d) : TyX K H v (.type (tyD d)) := by
  cases p with
  | non => exact .base .non
  | bl b => exact .base (.bl b)
  | int i => exact .base (.int i)
  | str y => exact .base (.str y)
  | lst s al => exact .base (.lst (e _ _ s))
  | tup s al =>
    rcases s with (s | ⟨o, s⟩) | ⟨o, its, n, h1, h2, _⟩
    · exact .base (.tup (e _ _ s))
    · exact .fTuple (e _ _ s)
    · exact .kTuple h1 h2
  | scr q s =>
    rcases s with (s | ⟨o, s⟩) | ⟨o, its, n, h1, h2, _⟩
    · exact .base (.lst (e _ _ s))
    · exact .base (.frz (e _ _ s))
    · exact .kList h1 h2
/-- an expression that names a value that is no data: a class -/
def DC (M : Md) (X : Cx) (e : Expr) (ρ : List Sl) (x : V) : Prop := ∀ B F σ H, EnvB M.K B F H σ ρ → ∀ Q : VK, Q x H → semE X e σ H Q
section
variable {M : Md} {X : Cx} {W : WX} {N : List Str} {sc : Sco} {k kf : Nat} {ρ ρ' ρ'' : List Sl} {d d1 d2 d3 : PyData} {ds : List PyData} {e o a b c' : Expr} {es : List Expr} {pos p2 p3 p4 p5 apos : Pos} {x y z : Str} {φ : List PyData → Out → Prop} {nx : List Sl → Prop} {R : REnds} {bb : Bool} {i : Nat}
theorem dc_ty {T : String} (c : Cv M N sc X) (hm : M.mg x = none) (hv : bootBuiltins x = some (.type T)) (hg : (glB sc x && okN x) = true := by decide +kernel) : DC M X (.Name x pos) ρ (.ty T) := fun B F σ H I Q q pins s iv => by
  rw [Bool.and_eq_true] at hg
  exact (pe_bltn (c.gl hg.1) (by rw [c.eg]; exact hm) hv (v := .ty T) rfl (okN3 hg.2) (okN1 hg.2)).run pins s σ H Q iv q
theorem dc_own {C : Addr} (c : Cv M N sc X) (hm : M.mg x = some (.ref C)) (hg : (glB sc x && okN x) = true := by decide +kernel) : DC M X (.Name x pos) ρ (.ref C) := fun B F σ H I Q q pins s iv => by
  rw [Bool.and_eq_true] at hg
  exact (pe_glob (c.gl hg.1) (by rw [c.eg]; exact hm) (v := .ref C) rfl (okN1 hg.2)).run pins s σ H Q iv q
theorem dc_raw {v : V} (c : Cv M N sc X) (i : Nat) (hi : N[i]? = some x) (hd : ρ[i]? = some (.r v)) (hv : (visB sc x && okN x) = true := by decide +kernel) : DC M X (.Name x pos) ρ v := fun B F σ H I Q q pins s iv => by
  rw [Bool.and_eq_true] at hv
  refine (pe_var (i := i) (by rw [c.hN]; exact hi) (c.vis hv.1) (okN1 hv.2) (okN2 hv.2)).run pins s σ H Q iv ?_
  obtain ⟨O, _, h2⟩ := I.own
  rcases h2 i _ hd with z | ⟨u, hu, hh⟩
  · cases z
  · have hh : u = v := hh
    subst hh
    exact ⟨u, hu, q⟩
theorem boot_isinstance : bootBuiltins "isinstance" = some (.builtin "isinstance") := by decide +kernel
/-- isinstance(data, class) -/
theorem de_isi {q : Pos} {v : V} {u : Value} (c : Cv M N sc X) (hm : M.mg "isinstance" = none) (ha : DE M X a ρ d) (hb : DC M X b ρ v) (hu : ClsV v u) (hk : PySem.W.kitOne M.K (.type (tyD d)) u = some bb)
    (he : starEach [a, b] X.env = (false, eval a X.env) :: starEach [b] X.env := by rfl) (he2 : starEach [b] X.env = (false, eval b X.env) :: starEach [] X.env := by rfl) (hpl : (backTo pos (starEach [b] X.env)).any (·.1) = false := by rfl) (hg : (glB sc "isinstance" && okN "isinstance") = true := by decide +kernel) : DE M X (.Call (.Name "isinstance" q) [a, b] [] pos) ρ (.bool bb) := by
  rw [Bool.and_eq_true] at hg
  refine de_of (pe_callB call_isi (c.gl hg.1) (by rw [c.eg]; exact hm) boot_isinstance (pa_cons pe_sem (pa_cons pe_sem pa_nil he2) he) (okN3 hg.2) (okN1 hg.2) he hpl) fun B F σ H I Q q => ?_
  refine ha B F σ H I _ fun v1 H1 B1 s1 I1 p1 => hb B1 F σ H1 I1 _ ?_
  exact ⟨v1, v, _, u, bb, rfl, hu, by rw [c.eK]; exact tyx_of I1.bh p1, by rw [c.eK]; exact hk, q _ _ _ s1 I1 (.bl bb)⟩
/-- a tuple of classes -/
def DCs (M : Md) (X : Cx) (es : List Expr) (ρ : List Sl) (vs : List V) : Prop := ∀ B F σ H, EnvB M.K B F H σ ρ → ∀ Q : List V → Hp → Prop, Q vs H → semA X es σ H Q
theorem dcs_nil : DCs M X [] ρ [] := fun B F σ H I Q q pos pins s iv => pa_nil.run pos pins s σ H Q iv q
theorem dcs_cons {v : V} {vs : List V} (h : DC M X e ρ v) (hr : DCs M X es ρ vs) (hs : starEach (e :: es) X.env = (false, eval e X.env) :: starEach es X.env := by rfl) : DCs M X (e :: es) ρ (v :: vs) := fun B F σ H I Q q pos pins s iv =>
  (pa_cons (pe_sem (X := X) (e := e)) (pa_sem (X := X) (es := es)) hs).run pos pins s σ H Q iv (h B F σ H I _ (hr B F σ H I _ q))
theorem de_isiT {q : Pos} {x1} {vs : List V} {us : List Value} (c : Cv M N sc X) (hm : M.mg "isinstance" = none) (ha : DE M X a ρ d) (hb : DCs M X es ρ vs) (hl : vs.length ≤ 1000) (hu : Paired ClsV vs us) (hk : PySem.W.kitAny M.K (.type (tyD d)) us = some bb)
    (he : starEach [a, .Tuple es x1 p2] X.env = (false, eval a X.env) :: starEach [.Tuple es x1 p2] X.env := by rfl) (he2 : starEach [.Tuple es x1 p2] X.env = (false, eval (.Tuple es x1 p2) X.env) :: starEach [] X.env := by rfl) (hpl : (backTo pos (starEach [.Tuple es x1 p2] X.env)).any (·.1) = false := by rfl) (hg : (glB sc "isinstance" && okN "isinstance") = true := by decide +kernel) : DE M X (.Call (.Name "isinstance" q) [a, .Tuple es x1 p2] [] pos) ρ (.bool bb) := by
  rw [Bool.and_eq_true] at hg
  refine de_of (pe_callB call_isiT (c.gl hg.1) (by rw [c.eg]; exact hm) boot_isinstance (pa_cons pe_sem (pa_cons (pe_tup pa_sem) pa_nil he2) he) (okN3 hg.2) (okN1 hg.2) he hpl) fun B F σ H I Q q => ?_
  refine ha B F σ H I _ fun v1 H1 B1 s1 I1 p1 => hb B1 F σ H1 I1 _ ?_
  refine ⟨Evl.sz_of (by omega), fun tp htp => ?_⟩
  obtain ⟨s2, I2⟩ := I1.new (o := .tup vs) htp
  exact ⟨v1, tp, vs, _, us, bb, rfl, upd_same, hu, by rw [c.eK]; exact tyx_of I2.bh (dp_mono s2 p1), by rw [c.eK]; exact hk, q _ _ _ (s1.trans s2) I2 (.bl bb)⟩

/-! ### exceptions -/
/-- what an own class of errors (below ValueError) must say -/
structure Exc (M : Md) (x : Str) (C : Addr) (bm : List Value) : Prop where
  mg : M.mg x = some (.ref C)
  ex : PySem.W.excIn M.K C bm "ValueError.__new__" = true
  kp : PySem.W.keepIn M.K (.ref C) = true
  sb : PySem.W.subIn M.K (.ref C) (.type "BaseException") = some true
  ty : PySem.W.typeIn M.K (.ref C) = some (.type "type")
abbrev bmV : List Value := [.type "ValueError", .type "Exception", .type "BaseException", .type "object"]
theorem ds_raise {C : Addr} {m : Str} {j} (c : Cn M k N sc X W) (E : Exc M x C bmV) (h : R.ex C ρ) (hg : (glB sc x && okN x) = true := by decide +kernel) : DS M X W (.Raise (some (.Call (.Name x p2) [.Constant (.str m) j p3] [] p4)) none pos) ρ nx R := by
  rw [Bool.and_eq_true] at hg
  refine ds_of (L2N.ps_raise c.calm c.tk (L2N.pmk_own PySem.F.excBase_ValueError (by rw [c.eK]; exact E.ex) (by rw [c.eg]; exact E.mg) (by rw [c.eK]; exact E.kp) (raises_own (by rw [c.eK]; exact E.sb) (by rw [c.eK]; exact E.ty)) (c.gl hg.1) (okN1 hg.2))) fun B F σ H I E f => ?_
  exact f.ex C ρ σ H B h (Same.refl B) I
/-- a call that may raise: as a statement -/
theorem ds_callX {q : Pos} {C : Addr} (c : Cn M k N sc X W) (G : Fok M kf x φ) (hk : kf ≤ k) (ha : DA M X (e :: es) ρ ds) (hφ : φ ds (.exc C)) (h : R.ex C ρ) (he : starEach (e :: es) X.env = (false, eval e X.env) :: starEach es X.env := by rfl)
    (hpl : (backTo pos (starEach es X.env)).any (·.1) = false := by rfl) (hg : (glB sc x && okN x) = true := by decide +kernel) : DS M X W (.Return (some (.Call (.Name x q) (e :: es) [] pos)) p2) ρ nx R := by
  rw [Bool.and_eq_true] at hg
  obtain ⟨f, fd, ps, F, hm, hkp, hb⟩ := G.ex
  have F1 : FnOk X.prog X.w X.K X.mg X.base (L2N.CX X.prog X.w) kf f fd ps (spX M.K φ) := by rw [c.eP, c.ew, c.eK, c.eg, c.eb]; exact F
  refine ds_of (ps_ret (pe_callS F1 (c.room.mono hk) (c.gl hg.1) (by rw [c.eg]; exact hm) (by rw [c.eK]; exact hkp) (by rw [c.eK]; exact hb) (L2N.passAt c.tk) pa_sem (okN1 hg.2) he hpl)) fun B F σ H I E f => ?_
  refine ha B F σ H I _ fun vs H1 B1 s1 I1 p1 => ?_
  refine ⟨ds, .exc C, B1, rem H1 B1, hφ, p1, I1.bh, rem_same, fun a u => rem_dj, (fun d' hd => by cases hd), fun C' hC H' t1 t2 => ?_⟩
  cases hC
  exact f.ex C ρ σ H' B1 h s1 (I1.back (Same.refl B1) t2 t1 fun a u e => rem_dj e)
theorem EnvB.setr {K : PySem.W.Frag} {B F H : Hp} {σ : L2.St} (I : EnvB K B F H σ ρ) (x : V) (hr : SetAt i (.r x) ρ ρ') : EnvB K B F H (σ.set i (some x)) ρ' := by
  obtain ⟨rfl, hi⟩ := hr.eq
  refine ⟨by rw [List.length_set, List.length_set, I.ln], I.bh, I.fh, I.dj, ?_⟩
  obtain ⟨O, h1, h2⟩ := I.own
  refine ⟨O, h1, fun j s hs => ?_⟩
  by_cases hj : i = j
  · subst hj
    rw [List.getElem?_set_self hi] at hs
    cases hs
    exact .inr ⟨x, by rw [List.getElem?_set_self (by rw [I.ln]; exact hi)], rfl⟩
  · rw [List.getElem?_set_ne hj] at hs ⊢
    exact h2 j s hs
/-- within a suite that holds an error -/
structure Hx (M : Md) (k : Nat) (N : List Str) (sc : Sco) (X : Cx) (a C : Addr) : Prop extends Cv M N sc X where
  room : L2H.RoomH k X.A
  pin : ∃ oe, (a, oe) ∈ X.pn ∧ L2H.Hot1 X.A (a, oe) ∧ L2N.Zn (.ref C) none oe
abbrev Wf : WX := fun _ _ _ _ => False
theorem ds_tryAs {n : Str} {T : Addr} {body suite : List Stmt} {b₀ : Stmt} {np pos' : Pos} (c : Cn M k N sc X W) (tr : Tr X) (hi : Get i n N) (hT : M.mg x = some (.ref T)) (mid : Addr → List Sl → Prop)
    (hb : ∀ X' W', Cn M k N sc X' W' → DB M X' W' body ρ nx { R with ex := mid })
    (hsu : ∀ C ρ', mid C ρ' → ∃ b, PySem.W.exmOne M.K (.ref C) (.ref T) = some b ∧ (b = true → ∀ X' a, Hx M k N sc X' a C → ∃ ρ'', SetAt i (.r (.ref a)) ρ' ρ'' ∧
      DB M X' Wf (b₀ :: suite) ρ'' (fun r => nx (r.set i .no)) { rt := R.rt, bk := fun r => R.bk (r.set i .no), ct := fun r => R.ct (r.set i .no) }) ∧ (b = false → R.ex C ρ'))
    (hln : sc.rd.names.lookup n = some .local := by decide +kernel) (hg : (glB sc x && okN x) = true := by decide +kernel) :
    DS M X W (.Try body [.ExceptHandler (some (.Name x np)) (some n) (b₀ :: suite) pos'] [] [] pos) ρ nx R := by
  rw [Bool.and_eq_true] at hg
  refine ds_of (L2N.ps_try_as (X := X) (tb := fun W' D σ H => ∀ pn xe, L2N.Takes (X.tr pn xe) W' → PassesOwn (model X.prog X.w) X.A X.env xe → semB (X.tr pn xe) body D σ H)
    (ts := fun a cls d D σ H => ∀ oe pn, L2N.Zn cls d oe → (∃ vs, oe.data = .fields vs) → semB (X.suite a ((a, oe) :: pn)) (b₀ :: suite) D σ H)
    tr.1 tr.2 (by rw [c.hN]; exact c.nd) (by rw [c.hN]; exact hi.at) (by show X.env.scope.names.lookup n = _; rw [c.hs]; exact hln) ⟨c.gl hg.1, okN1 hg.2, .inl (by rw [c.eg]; exact hT)⟩ c.tk
    (fun W' pn xe tk po => ⟨fun pins s σ H D I h => h pn xe tk po pins s I⟩) (fun a oe cls d pn hz hf => ⟨fun pins s σ H D I h => h oe pn hz hf pins s I⟩)) fun B F σ H I E f => ?_
  intro pn xe tk po
  have cn : Cn M k N sc (X.tr pn xe) (wAs X.K (.ref T) i (fun a cls d D σ H => ∀ oe pn, L2N.Zn cls d oe → (∃ vs, oe.data = .fields vs) → semB (X.suite a ((a, oe) :: pn)) (b₀ :: suite) D σ H) W E) :=
    { eP := c.eP, ew := c.ew, eK := c.eK, eg := c.eg, eb := c.eb, hN := c.hN, nd := c.nd, hs := c.hs, kind := c.kind, loc := c.loc, un := c.un, calm := c.calm, room := c.room, tk := tk, po := po }
  refine hb _ _ cn B F σ H I E ⟨f.nx, f.rt, fun C ρ' σ' H' B' hm s' I' => ?_, f.bk, f.ct⟩
  obtain ⟨b, e1, h1, h2⟩ := hsu C ρ' hm
  refine ⟨b, by rw [c.eK]; exact e1, fun hb a na oe pn hz hf => ?_, fun hb => f.ex C ρ' σ' H' B' (h2 hb) s' I'⟩
  obtain ⟨vs, hv⟩ := hf
  have hx : Hx M k N sc (X.suite a ((a, oe) :: pn)) a C :=
    { eP := c.eP, ew := c.ew, eK := c.eK, eg := c.eg, eb := c.eb, hN := c.hN, nd := c.nd, hs := c.hs, kind := c.kind, loc := c.loc, un := c.un, room := ⟨c.room.dp, c.room.un⟩, pin := ⟨oe, List.mem_cons_self, ⟨rfl, vs, hv, hz.2.2 vs hv⟩, hz⟩ }
  obtain ⟨ρ'', hr, hd⟩ := h1 hb _ a hx
  refine hd B' F _ H' (I'.setr _ hr) _ ⟨fun r σ2 H2 B2 q t I2 => ?_, fun d r x σ2 H2 B2 q t I2 p => f.rt d r x σ2 H2 B2 q (s'.trans t) I2 p, fun C r σ2 H2 B2 q => q.elim, fun r σ2 H2 B2 q t I2 => ?_, fun r σ2 H2 B2 q t I2 => ?_⟩
  · exact f.nx _ _ H2 B2 q (s'.trans t) (I2.setno i none)
  · exact f.bk _ _ H2 B2 q (s'.trans t) (I2.setno i none)
  · exact f.ct _ _ H2 B2 q (s'.trans t) (I2.setno i none)
/-! ### a def that is asked about the error that is held -/
def FnE (M : Md) (k : Nat) (f : Addr) (fd : FuncData) (p : Str) (ψ : Addr → PyData → Prop) : Prop := ∀ (A : Around) (outer : List Env) (s : Shared) (H B F : Hp) (args : Args) (us : List Value) (Q : VK) (E : XK) (a C : Addr) (oe : Obj) (d : PyData),
  L2H.RoomH k A → L2H.Hot1 A (a, oe) → L2H.PinOk outer H s (a, oe) → Env0 M.P M.w M.K M.mg M.base A outer s H → BindsTo s fd args ([p].zip us) → Vals [V.ref a] us → L2N.Zn (.ref C) none oe → ψ C d → Same B H → Same F H → (∀ a u, F a = some u → B a = none) →
  (∀ v H' B', Same B B' → Same F H' → Same B' H' → (∀ a u, F a = some u → B' a = none) → Dq M.K B' v d → Q v H') → codeAny (model M.P M.w) A (.call (.ref f) args) (CR (L2N.CX M.P M.w) outer M.P M.w H s Q E) s
structure FokE (M : Md) (k : Nat) (x : Str) (ψ : Addr → PyData → Prop) : Prop where
  ex : ∃ f fd p, FnE M k f fd p ψ ∧ M.mg x = some (.ref f) ∧ PySem.W.keepIn M.K (.ref f) = true ∧ Binds M.K fd [p] []
theorem fokE_mk {st : Stmt} {f : Addr} {fd : FuncData} {qual p : Str} {ψ : Addr → PyData → Prop} (F : Fun M.K x qual st f fd) (hm : M.mg x = some (.ref f)) (hb : Binds M.K fd [p] []) (S : FnScope N [p] (defScope st))
    (hbody : ∀ (X : Cx) (a C : Addr) (d : PyData), Hx M k N ⟨defScope st, defScope st⟩ X a C → ψ C d → DB M X Wf (defBody st) (.r (.ref a) :: List.replicate (N.length - 1) .no) (fun _ => d = .none) { rt := fun d' _ => d' = d }) : FokE M (k + 1) x ψ := by
  obtain ⟨oc, od, kV, doc, pm, an, cdv, ct, osl, rfl, lk, hcd⟩ := F.ex
  refine ⟨f, _, p, ?_, hm, F.kp, hb⟩
  intro A outer s H B F' args us Q E a C oe d hr hot pin e0 hbt r hz hψ sB sF dj q
  have kin : M.K.In s.heap := e0.mod.kin.keeps fun b o e => (e0.bs b o e).1
  have nl : s.heap.NoLimit := e0.mod.nolimit.keeps fun b o e => (e0.bs b o e).1
  have hps : 1 ≤ N.length := by have := congrArg List.length S.pre; rw [List.length_take] at this; simp at this; omega
  refine codeAny_call_function hr.depth (kin _ _ lk) rfl S.co S.gen rfl (PySem.W.codeRec_of kin hcd) (hbt _ _ _ _ (wpAny_newFunctionEnv_cells S.kind (fun ⟨y, v⟩ hy => ?_) fun env he s1 x => ?_))
  · exact (S.par y (List.of_mem_zip hy).1).imp id fun c => ⟨c, PySem.W.cellsFrom_some _ _ _ (.inl c)⟩
  · subst he
    refine ⟨nl.keeps x.toInCall.keep, codeAny_func ?_⟩
    have J := L2H.inv_startH (CX := L2N.CX M.P M.w) (E := E) S pin e0 rfl r x
    have hx : Hx M k N ⟨defScope st, defScope st⟩ (L2H.cxH (L2N.CX M.P M.w) M.P M.w M.K M.mg M.base N qual (defScope st) f cdv A outer s H E (a, oe)) a C :=
      { eP := rfl, ew := rfl, eK := rfl, eg := rfl, eb := rfl, hN := rfl, nd := S.nd, hs := rfl, kind := S.kind, loc := fun h => loc_def rfl (fun _ => rfl) h, un := by have := (hr.deeper (envOfC qual (defScope st) s.heap.objs.size f cdv)).un; show _ + 200 < _; simp only [L2H.cxH, cxOf]; omega, room := hr.deeper _, pin := ⟨oe, List.mem_cons_self, hot, hz⟩ }
    have I : EnvB M.K B F' H (L2.start N [V.ref a]) (.r (.ref a) :: List.replicate (N.length - 1) .no) := by
      refine ⟨?_, sB, sF, dj, fun _ => none, (fun a t e => by cases e), fun i s hs => ?_⟩
      · unfold L2.start
        simp only [List.length_append, List.length_map, List.length_replicate, List.length_cons, List.length_nil]
        omega
      · cases i with
        | zero =>
          cases hs
          exact .inr ⟨.ref a, rfl, rfl⟩
        | succ i =>
          rw [List.getElem?_cons_succ, List.getElem?_replicate] at hs
          split at hs
          · cases hs; exact .inl rfl
          · cases hs
    have run := hbody _ a C d hx hψ B F' _ H I { nx := fun _ H' => Q .non H', rt := Q } ⟨fun ρ σ' H' B' z t I' => by subst z; exact q .non H' B' t I'.fh I'.bh I'.dj .non, fun d' ρ v σ' H' B' z t I' pv => by subst z; exact q v H' B' t I'.fh I'.bh I'.dj pv, fun C ρ σ' H' B' z => z.elim, fun ρ σ' H' B' z => z.elim, fun ρ σ' H' B' z => z.elim⟩ [] s1 J
    refine wpAny_mono run (fun fl s' hs => ?_) fun _ _ z => z
    cases fl with
    | ret u =>
      obtain ⟨v, σ', H', J', rv, z⟩ := hs
      exact ⟨v, H', J'.os, J'.bare, J'.base, J'.hok, rv, z⟩
    | next =>
      obtain ⟨σ', H', J', z⟩ := hs
      exact ⟨V.non, H', J'.os, J'.bare, J'.base, J'.hok, rfl, z⟩
    | brk => obtain ⟨_, _, _, z⟩ := hs; exact z.elim
    | cont => obtain ⟨_, _, _, z⟩ := hs; exact z.elim
theorem de_callE {q : Pos} {a C : Addr} {ψ : Addr → PyData → Prop} (c : Hx M k N sc X a C) (G : FokE M kf x ψ) (hk : kf ≤ k) (he : DC M X e ρ (.ref a)) (hψ : ψ C d) (hs : starEach [e] X.env = (false, eval e X.env) :: starEach [] X.env := by rfl)
    (hpl : (backTo pos (starEach [] X.env)).any (·.1) = false := by rfl) (hg : (glB sc x && okN x) = true := by decide +kernel) : DE M X (.Call (.Name x q) [e] [] pos) ρ d := by
  rw [Bool.and_eq_true] at hg
  obtain ⟨f, fd, p, run, hm, hkp, hb⟩ := G.ex
  obtain ⟨oe, hp, hot, hz⟩ := c.pin
  intro B F σ H I Q q' pins s iv
  refine wpAny_Call_Name_kw (ld_glob iv (c.gl hg.1) (by rw [c.eg]; exact hm) ?_ (okN1 hg.2))
  refine PySem.W.callWith_K (h₀ := X.base) iv.ok.mod.kin (by rw [c.eK]; exact hkp) (thn ((pa_cons (pe_sem (X := X) (e := e)) pa_nil hs).run pos pins s σ H (fun vs H1 => vs = [V.ref a] ∧ H1 = H) iv (he B F σ H I _ ⟨rfl, rfl⟩)) fun us s1 hv => ⟨?_, ?_⟩) hs hpl
  · obtain ⟨vs, H1, I1, r1, _, rfl⟩ := hv
    exact I1.kIn
  · obtain ⟨vs, H1, I1, r1, rfl, rfl⟩ := hv
    have P1 := I1.pin (a, oe) (List.mem_append_left _ hp)
    have pk : L2H.PinOk X.stack H1 s1 (a, oe) := ⟨P1.1, P1.2.1, fun z => (List.mem_cons.mp (I1.stkSub a z)).elim P1.2.2.1 P1.2.2.2.1, P1.2.2.2.2⟩
    have bt := hb s1 us (by rw [← c.eK]; exact I1.kIn) (by rw [List.append_nil, ← r1.length]; rfl)
    rw [List.append_nil] at bt
    have e0 : Env0 M.P M.w M.K M.mg M.base X.A X.stack s1 H1 := by rw [← c.eP, ← c.ew, ← c.eK, ← c.eg, ← c.eb]; exact I1.env0
    have z := run X.A X.stack s1 H1 B (rem H1 B) ⟨us, []⟩ us Q E0 a C oe d (c.room.mono hk) hot pk e0 bt r1 hz hψ I.bh rem_same (fun a u => rem_dj) fun v H' B' t1 t2 t3 t4 pv => q' v H' B' t1 (I.back t1 t2 t3 t4) pv
    rw [← c.eP, ← c.ew] at z
    refine wpAny_call (codeAny_mono z fun r s' hq => ?_)
    cases r with
    | error e => exact passN pins σ H1 s1 e s' I1 hq
    | ok fl =>
      cases fl with
      | ret u => exact I1.after hq
      | next => exact False.elim hq
      | brk => exact False.elim hq
      | cont => exact False.elim hq
/-- isinstance of the error that is held -/
theorem call_isX {a D : Addr} {oe : Obj} (hp : (a, oe) ∈ X.pn) (C : ExcC X.K D) (hz : L2N.Zn (.ref D) none oe) (hf : ∃ vs, oe.data = .fields vs) : CallR X (.builtin "isinstance") (rIsE X.K D a) := fun pins s σ H xs us Q I r h => by
  obtain ⟨c, cv, b, rfl, hcv, e, q⟩ := h
  obtain ⟨u1, u2, rfl, r1, r2⟩ := vals2 r
  have ec := hcv _ r2
  subst ec
  cases (show u1 = Value.ref a from r1)
  obtain ⟨vs, hv⟩ := hf
  have J : PySem.W.InstAt s.heap a oe D none := by
    have hget := (I.pin (a, oe) (List.mem_append_left _ hp)).1
    cases oe with
    | mk oc od oda osl =>
      obtain ⟨h1, h2, _⟩ := hz
      dsimp only at h1 h2 hv
      subst h1; subst h2; subst hv
      exact ⟨hget, rfl, rfl, trivial⟩
  refine PySem.W.kia_one (PySem.W.handS_kitx_exc C.hg C.hk C.hs C.hd C.ha C.hn C.ht C.hm) I.kIn J e (fun z => nomatch z) fun tk => ?_
  exact ⟨.bl b, H, I.tok tk, rfl, q⟩
theorem de_isX {q : Pos} {v : V} {u : Value} {D a0 : Addr} (c : Hx M k N sc X a0 D) (hC : ExcC M.K D) (hm : M.mg "isinstance" = none) (ha : DC M X a ρ (.ref a0)) (hb : DC M X b ρ v) (hu : ClsV v u) (hk : PySem.W.kitOne M.K (.ref D) u = some bb)
    (he : starEach [a, b] X.env = (false, eval a X.env) :: starEach [b] X.env := by rfl) (he2 : starEach [b] X.env = (false, eval b X.env) :: starEach [] X.env := by rfl) (hpl : (backTo pos (starEach [b] X.env)).any (·.1) = false := by rfl) (hg : (glB sc "isinstance" && okN "isinstance") = true := by decide +kernel) : DE M X (.Call (.Name "isinstance" q) [a, b] [] pos) ρ (.bool bb) := by
  rw [Bool.and_eq_true] at hg
  obtain ⟨oe, hp, ⟨_, vs, hv, _⟩, hz⟩ := c.pin
  refine de_of (pe_callB (call_isX hp (by rw [c.eK]; exact hC) hz ⟨vs, hv⟩) (c.gl hg.1) (by rw [c.eg]; exact hm) boot_isinstance (pa_cons pe_sem (pa_cons pe_sem pa_nil he2) he) (okN3 hg.2) (okN1 hg.2) he hpl) fun B F σ H I Q q => ?_
  refine ha B F σ H I _ (hb B F σ H I _ ?_)
  exact ⟨v, u, bb, rfl, fun w r => hu.eq r, by rw [c.eK]; exact hk, q _ _ _ (Same.refl B) I (.bl bb)⟩
theorem kit_own {K : PySem.W.Frag} {C D : Addr} (h : PySem.W.subIn K (.ref C) (.ref D) = some bb) (hd : PySem.W.hasDictIn K D = true) (ht : PySem.W.typeIn K (.ref D) = some (.type "type")) (hne : C ≠ D) : PySem.W.kitOne K (.ref C) (.ref D) = some bb := by
  obtain ⟨cd, hc, _⟩ := PySem.W.any_some hd
  unfold PySem.W.kitOne
  rw [if_neg (fun z => hne (Value.ref.inj (beq_iff_eq.mp z)))]
  show (if ((PySem.W.clsIn K D).isSome && PySem.W.typeIn K (.ref D) == some (.type "type")) = true then PySem.W.subIn K (.ref C) (.ref D) else none) = some bb
  rw [if_pos (by rw [hc, ht]; rfl)]
  exact h
theorem kit_self {K : PySem.W.Frag} {C : Addr} : PySem.W.kitOne K (.ref C) (.ref C) = some true := if_pos (beq_self_eq_true _)
theorem kit_bi {K : PySem.W.Frag} {C : Addr} {T : String} (hm : PySem.W.kitMeta T = true) (h : PySem.W.subIn K (.ref C) (.type T) = some bb) : PySem.W.kitOne K (.ref C) (.type T) = some bb := by
  unfold PySem.W.kitOne
  rw [if_neg (fun z => by have := beq_iff_eq.mp z; cases this)]
  show (if PySem.W.kitMeta T = true then PySem.W.subIn K (.ref C) (.type T) else none) = some bb
  rw [if_pos hm]
  exact h
end
end Dl

namespace Dl
open PySem PySem.Spec PyProof.Rows L2
section
variable {M : Md} {X : Cx} {W : WX} {N : List Str} {sc : Sco} {k kf : Nat} {ρ ρ' ρ'' : List Sl} {d d1 d2 d3 : PyData} {ds es' : List PyData} {e o a b c' : Expr} {es : List Expr} {pos p2 p3 p4 p5 apos : Pos} {x y z : Str} {φ : List PyData → Out → Prop} {nx : List Sl → Prop} {R : REnds} {bb : Bool} {i : Nat}
/-! ### range downwards -/
def rangeDn (lo : Int) (n : Nat) : List PyData := (List.range n).map fun i => .int (lo + (i : Nat) * -1)
theorem di_down {tg : Expr} {q : Pos} {m n : Int} (c : Cv M N sc X) (hm : M.mg "range" = none) (ha : DE M X a ρ (.int m)) (hn : DE M X b ρ (.int n)) (hc : DE M X c' ρ (.int (-1))) (hb : -(2 ^ 62) ≤ m ∧ m < 2 ^ 62 ∧ -(2 ^ 62) ≤ n ∧ n < 2 ^ 62)
    (hs : starEach [a, b, c'] X.env = (false, eval a X.env) :: starEach [b, c'] X.env := by rfl) (hs2 : starEach [b, c'] X.env = (false, eval b X.env) :: starEach [c'] X.env := by rfl) (hs3 : starEach [c'] X.env = (false, eval c' X.env) :: starEach [] X.env := by rfl) (hpl : (backTo pos (starEach [b, c'] X.env)).any (·.1) = false := by rfl) (hg : glB sc "range" = true := by decide +kernel) : DI M X tg (.Call (.Name "range" q) [a, b, c'] [] pos) ρ (rangeDn m (m - n).toNat) :=
  di_of (pi_range3 (c.gl hg) (by rw [c.eg]; exact hm) (pa_cons pe_sem (pa_cons pe_sem (pa_cons pe_sem pa_nil hs3) hs2) hs) hs hpl) fun B F σ H I Rk r => ha B F σ H I _ fun v H1 B1 s I1 p => by
    cases p
    refine hn B1 F σ H1 I1 _ fun v2 H2 B2 s2 I2 p2 => ?_
    cases p2
    refine hc B2 F σ H2 I2 _ fun v3 H3 B3 s3 I3 p3 => ?_
    cases p3
    refine ⟨m, n, -1, (m - n).toNat, rfl, RgC.neg hb.1 hb.2.1 hb.2.2.1 hb.2.2.2, r _ H3 B3 ((s.trans s2).trans s3) I3 fun B4 F4 H4 σ4 ρ4 s4 I4 => ⟨fun i d hd => ?_, ?_⟩⟩
    · unfold rangeDn at hd
      rw [List.getElem?_map] at hd
      by_cases hi : i < (m - n).toNat
      · rw [List.getElem?_range hi] at hd
        cases hd
        refine ⟨hi, fun x H5 hy => ?_⟩
        obtain ⟨rfl, rfl⟩ := hy
        exact ⟨B4, Same.refl B4, I4, .int _⟩
      · rw [List.getElem?_eq_none (by rw [List.length_range]; omega)] at hd
        cases hd
    · show (m - n).toNat ≤ _
      unfold rangeDn
      rw [List.length_map, List.length_range]
      exact Nat.le_refl _
/-! ### zip -/
def zipD (ds es : List PyData) : List PyData := List.zipWith (fun a b => .tuple [a, b]) ds es
theorem di_zip {elts : List Expr} {kk : Nat} {tpos q : Pos} {d1 d2 : PyData} (c : Cv M N sc X) (hm : M.mg "zip" = none) (ha : DE M X a ρ d1) (hb : DE M X b ρ d2) (hk : (d1 = .list ds ∧ d2 = .list es') ∨ (d1 = .tuple ds ∧ d2 = .tuple es'))
    (hs : starEach [a, b] X.env = (false, eval a X.env) :: starEach [b] X.env := by rfl) (hs2 : starEach [b] X.env = (false, eval b X.env) :: starEach [] X.env := by rfl) (hpl : (backTo pos (starEach [b] X.env)).any (·.1) = false := by rfl) (hg : glB sc "zip" = true := by decide +kernel) : DI M X (.Tuple elts kk tpos) (.Call (.Name "zip" q) [a, b] [] pos) ρ (zipD ds es') :=
  di_of (RZ.pi_zipA (c.gl hg) (by rw [c.eg]; exact hm) (pa_cons pe_sem (pa_cons pe_sem pa_nil hs2) hs) hs hpl) fun B F σ H I Rk r => ha B F σ H I _ fun v H1 B1 s I1 p => hb B1 F σ H1 I1 _ fun v2 H2 B2 s2 I2 p2 => by
    have fin : ∀ {xs ys : List V} {B4 F4 H4 : Hp} {σ4 : L2.St} {ρ4 : List Sl} {i : Nat} {d : PyData}, DqAll M.K B2 xs ds → DqAll M.K B2 ys es' → Same B2 B4 → EnvB M.K B4 F4 H4 σ4 ρ4 → (zipD ds es')[i]? = some d →
        ∃ v w, xs[i]? = some v ∧ ys[i]? = some w ∧ ∀ T, H4 T = none → ∃ B5, Same B4 B5 ∧ EnvB M.K B5 F4 (upd H4 T (.tup [v, w])) σ4 ρ4 ∧ Dq M.K B5 (.ref T) d := fun {xs ys B4 F4 H4 σ4 ρ4 i d} al al2 s4 I4 hd => by
      unfold zipD at hd
      rw [List.getElem?_zipWith] at hd
      cases h1 : ds[i]? with
      | none => rw [h1] at hd; cases hd
      | some u1 =>
        cases h2 : es'[i]? with
        | none => rw [h1, h2] at hd; cases hd
        | some u2 =>
          rw [h1, h2] at hd
          cases hd
          obtain ⟨v, hv, pv⟩ := dpa_getd al i u1 h1
          obtain ⟨w, hw, pw⟩ := dpa_getd al2 i u2 h2
          refine ⟨v, w, hv, hw, fun T hT => ?_⟩
          obtain ⟨s5, I5⟩ := I4.new (o := .tup [v, w]) hT
          exact ⟨_, s5, I5, .tup (.inl (.inl upd_same)) (.cons (dp_mono (s4.trans s5) pv) (.cons (dp_mono (s4.trans s5) pw) .nil))⟩
    have ln : (zipD ds es').length = min ds.length es'.length := by unfold zipD; rw [List.length_zipWith]
    rcases hk with ⟨rfl, rfl⟩ | ⟨rfl, rfl⟩
    · cases p with
      | lst sq al =>
        cases p2 with
        | lst sq2 al2 =>
          rename_i a1 xs a2 ys
          have l1 := dpa_len al
          have l2 := dpa_len al2
          refine ⟨a1, a2, xs, ys, rfl, .inl ⟨SqL.of (I2.bh _ _ (s2 _ _ sq)), SqL.of (I2.bh _ _ sq2), r _ H2 B2 (s.trans s2) I2 fun B4 F4 H4 σ4 ρ4 s4 I4 => ?_⟩⟩
          have q1 : SqL X.K H4 a1 xs := SqL.of ((s4.trans I4.bh) _ _ (s2 _ _ sq))
          have q2 : SqL X.K H4 a2 ys := SqL.of ((s4.trans I4.bh) _ _ sq2)
          refine ⟨fun i d hd => ?_, ⟨xs, ys, q1, q2, by rw [ln]; omega⟩⟩
          obtain ⟨v, w, hv, hw, hT⟩ := fin (dpa_mono s2 al) al2 s4 I4 hd
          refine ⟨⟨xs, ys, v, w, q1, q2, hv, hw⟩, fun x H5 hy => ?_⟩
          obtain ⟨T, v', w', rfl, hT0, rfl, g1, g2⟩ := hy
          have e1 : v' = v := Option.some.inj ((g1 xs q1).symm.trans hv)
          have e2 : w' = w := Option.some.inj ((g2 ys q2).symm.trans hw)
          subst e1; subst e2
          exact hT T hT0
    · cases p with
      | tup sq al =>
        cases p2 with
        | tup sq2 al2 =>
          rename_i a1 xs a2 ys
          have l1 := dpa_len al
          have l2 := dpa_len al2
          refine ⟨a1, a2, xs, ys, rfl, .inr ⟨by rw [c.eK]; exact Evl.ex_t (s2.trans I2.bh) sq, by rw [c.eK]; exact Evl.ex_t I2.bh sq2, r _ H2 B2 (s.trans s2) I2 fun B4 F4 H4 σ4 ρ4 s4 I4 => ?_⟩⟩
          have q1 : SqT X.K H4 a1 xs := by rw [c.eK]; exact Evl.ex_t ((s2.trans s4).trans I4.bh) sq
          have q2 : SqT X.K H4 a2 ys := by rw [c.eK]; exact Evl.ex_t (s4.trans I4.bh) sq2
          refine ⟨fun i d hd => ?_, ⟨xs, ys, q1, q2, by rw [ln]; omega⟩⟩
          obtain ⟨v, w, hv, hw, hT⟩ := fin (dpa_mono s2 al) al2 s4 I4 hd
          refine ⟨⟨xs, ys, v, w, q1, q2, hv, hw⟩, fun x H5 hy => ?_⟩
          obtain ⟨T, v', w', rfl, hT0, rfl, g1, g2⟩ := hy
          have e1 : v' = v := Option.some.inj ((g1 xs q1).symm.trans hv)
          have e2 : w' = w := Option.some.inj ((g2 ys q2).symm.trans hw)
          subst e1; subst e2
          exact hT T hT0
/-! ### texts: join, startswith, times -/
theorem strs_inv {K : PySem.W.Frag} {B : Hp} : ∀ {ls : List (List Nat)} {xs : List V}, DqAll K B xs (ls.map S) → xs = (ls.map fun t => (⟨t.toArray⟩ : Str)).map V.str
  | [], _, .nil => rfl
  | t :: r, _, .cons h tl => by
    cases h
    rw [strs_inv tl]
    rfl
theorem tooLong_of {n : Nat} (h : n ≤ 100000) : Builtin.Str.tooLong n = false := decide_eq_false (by have := Evl.sz_of h; omega)
theorem mt_joinL {a0 : List Nat} {ls : List (List Nat)} (c : Cv M N sc X) (hz : (ls.map List.length).sum + ls.length * a0.length ≤ 16777216) : Mt M X "str.join" (S a0) [.list (ls.map S)] (S (TL.joinL a0 ls)) := ⟨_, mt_join, fun B F σ H ρ v vs I p0 p Q q => by
  cases p0
  obtain ⟨v1, rfl, p1⟩ := inv_all1 p
  cases p1 with
  | lst sq al =>
    rename_i a1 xs
    have ev := strs_inv al
    subst ev
    refine ⟨⟨a0.toArray⟩, a1, ls.map fun t => ⟨t.toArray⟩, rfl, rfl, .inl (SqL.of (I.bh _ _ sq)), ?_, ?_⟩
    · rw [List.map_map, List.length_map]
      refine Nat.le_trans (Nat.le_of_eq ?_) hz
      congr 1
    · have e : Txt.join ⟨a0.toArray⟩ (ls.map fun t => (⟨t.toArray⟩ : Str)) = ⟨(TL.joinL a0 ls).toArray⟩ := by
        rw [TL.join_eq]
        have h := TL.tl_join ⟨a0.toArray⟩ (ls.map fun t => (⟨t.toArray⟩ : Str))
        have h2 : ((ls.map fun t => (⟨t.toArray⟩ : Str)).map TL.tl) = ls := by
          rw [List.map_map]
          exact (List.map_congr_left fun t _ => rfl).trans (List.map_id _)
        rw [h2] at h
        have h3 : (Str.join ⟨a0.toArray⟩ (ls.map fun t => (⟨t.toArray⟩ : Str))) = ⟨(TL.tl (Str.join ⟨a0.toArray⟩ (ls.map fun t => (⟨t.toArray⟩ : Str)))).toArray⟩ := by
          show _ = (⟨(Array.toList _).toArray⟩ : Str)
          rw [Array.toArray_toList]
        rw [h3, h]
      rw [e]
      exact q _ _ _ (Same.refl B) I (.str _)⟩
theorem joinL_nil : ∀ ls : List (List Nat), TL.joinL [] ls = ls.flatten
  | [] => rfl
  | [p] => by show p = p ++ []; rw [List.append_nil]
  | p :: q :: r => by
    show p ++ ([] ++ TL.joinL [] (q :: r)) = _
    rw [joinL_nil (q :: r)]
    rfl
theorem mt_starts {s t : List Nat} : Mt M X "str.startswith" (S s) [S t] (.bool (decide (s.take t.length = t))) := ⟨_, mt_startswith, fun B F σ H ρ v vs I p0 p Q q => by
  cases p0
  obtain ⟨v1, rfl, p1⟩ := inv_all1 p
  cases p1
  refine ⟨_, _, rfl, rfl, ?_⟩
  have e : Txt.startswith ⟨s.toArray⟩ ⟨t.toArray⟩ = decide (s.take t.length = t) := by
    unfold Txt.startswith Builtin.Str.subAt
    have l1 : (⟨t.toArray⟩ : Str).length = t.length := by show t.toArray.size = _; simp
    have l2 : (⟨s.toArray⟩ : Str).length = s.length := by show s.toArray.size = _; simp
    rw [l1, l2]
    have e2 : (s.toArray.extract 0 (0 + t.length) == t.toArray) = decide (s.take t.length = t) := by
      have : s.toArray.extract 0 (0 + t.length) = (s.take t.length).toArray := by simp
      rw [this]
      by_cases h : s.take t.length = t
      · rw [h, decide_eq_true rfl]; simp
      · rw [decide_eq_false h]
        refine beq_eq_false_iff_ne.mpr fun z => h ?_
        simpa using z
    show (decide (0 + t.length ≤ s.length) && (s.toArray.extract 0 (0 + t.length) == t.toArray)) = _
    rw [e2]
    by_cases h : s.take t.length = t
    · have : t.length ≤ s.length := by
        have := congrArg List.length h
        rw [List.length_take] at this
        omega
      rw [decide_eq_true h, decide_eq_true (by omega)]
      rfl
    · rw [decide_eq_false h, Bool.and_false]
  rw [e]
  exact q _ _ _ (Same.refl B) I (.bl _)⟩
theorem de_join {ls : List (List Nat)} {a0 : List Nat} (c : Cv M N sc X) (ho : DE M X o ρ (S a0)) (he : DE M X e ρ (.list (ls.map S))) (hz : (ls.map List.length).sum + ls.length * a0.length ≤ 16777216)
    (hs : starEach [e] X.env = [(false, eval e X.env)] := by rfl) (hbase : attributeBase o "join" X.env (eval o X.env) = eval o X.env := by rfl) (hline : (apos.endLine == pos.line) = true := by rfl) : DE M X (.Call (.Attribute o "join" apos) [e] [] pos) ρ (S (TL.joinL a0 ls)) :=
  de_m1 PySem.F.slot_str_join PySem.F.type_str_join ho he (mt_joinL c hz) hs hbase hline
theorem de_starts {s t : List Nat} (ho : DE M X o ρ (S s)) (he : DE M X e ρ (S t)) (hs : starEach [e] X.env = [(false, eval e X.env)] := by rfl) (hbase : attributeBase o "startswith" X.env (eval o X.env) = eval o X.env := by rfl) (hline : (apos.endLine == pos.line) = true := by rfl) : DE M X (.Call (.Attribute o "startswith" apos) [e] [] pos) ρ (.bool (decide (s.take t.length = t))) :=
  de_m1 PySem.F.slot_str_startswith PySem.F.type_str_startswith ho he mt_starts hs hbase hline
theorem op_mulStr : OpR X (binaryOp .Mult) (fun x y H Q => ∃ (l : List Nat) (n : Int), x = .str ⟨l.toArray⟩ ∧ y = .int n ∧ 0 ≤ n ∧ n ≤ 100000 ∧ l.length * n.toNat ≤ 100000 ∧ Q (.str ⟨(List.replicate n.toNat l).flatten.toArray⟩) H) := by
  intro pins s σ H x y v u Q I rx ry h
  obtain ⟨l, n, rfl, rfl, h0, h1, h2, q⟩ := h
  obtain ⟨t, rfl⟩ := rx
  obtain ⟨t', rfl⟩ := ry
  have lz : (⟨l.toArray⟩ : Str).length = l.length := by show l.toArray.size = _; simp
  have fold : ∀ (k : Nat) (b : Array Nat), (List.replicate k l.toArray).foldl (· ++ ·) b = b ++ (List.replicate k l).flatten.toArray := fun k => by
    induction k with
    | zero => intro b; simp
    | succ k ih => intro b; rw [List.replicate_succ, List.foldl_cons, ih]; simp [List.replicate_succ]
  refine PySem.P.mul_str (by rw [decide_eq_false (by omega), decide_eq_false (by omega)]; rfl) (fun g1 g2 => ?_) (fun g1 g2 => ?_) ?_
  · rw [lz]
    have : l.length ≤ 100000 := by
      have : 1 ≤ n.toNat := by omega
      have := Nat.le_mul_of_pos_right l.length this
      omega
    have hq : (100000 : Int) ≤ (2 ^ 63 - 1) / n := (Int.le_ediv_iff_mul_le (by omega)).mpr (by omega)
    omega
  · rw [lz]
    exact tooLong_of (by omega)
  · by_cases c1 : n < 1
    · have e : n = 0 := by omega
      subst e
      rw [if_pos c1]
      exact ⟨by decide, .str _, H, I.tok _, ⟨_, rfl⟩, q⟩
    · rw [if_neg c1]
      by_cases c2 : (n == 1 || (⟨l.toArray⟩ : Str).length == 0) = true
      · rw [if_pos c2]
        have e : (List.replicate n.toNat l).flatten = l := by
          rw [lz, Bool.or_eq_true] at c2
          rcases c2 with c2 | c2
          · have : n = 1 := by simpa using c2
            subst this
            simp
          · have : l = [] := by simpa using c2
            subst this
            simp
        rw [e] at q
        exact ⟨.str _, H, I, ⟨t, rfl⟩, q⟩
      · rw [if_neg c2, show (⟨l.toArray⟩ : Str).cps = l.toArray from rfl, fold]
        refine ⟨?_, .str _, H, I.tok _, ⟨_, rfl⟩, ?_⟩
        · refine Evl.sz_of ?_
          show Array.size _ ≤ _
          simp
          rw [Nat.mul_comm]
          exact h2
        · have e : #[] ++ (List.replicate n.toNat l).flatten.toArray = (List.replicate n.toNat l).flatten.toArray := by simp
          rw [e]
          exact q
theorem o_mulS {l : List Nat} {n : Int} (h : 0 ≤ n ∧ n ≤ 100000) (h2 : l.length * n.toNat ≤ 100000) : Op2 M X (binaryOp .Mult) (S l) (.int n) (S (List.replicate n.toNat l).flatten) := op2_val op_mulStr inv_str inv_int (fun B => .str _) fun H Q q => ⟨l, n, rfl, rfl, h.1, h.2, h2, q⟩
/-! ### count, index of flat lists -/
def vD : PyData → V
  | .bool b => .bl b
  | .int i => .int i
  | .str y => .str y
  | _ => .non
def flatD : PyData → Bool
  | .none => true
  | .bool _ => true
  | .int _ => true
  | .str _ => true
  | _ => false
theorem vD_of {K : PySem.W.Frag} {B : Hp} {v : V} (h : flatD d = true) (p : Dq K B v d) : v = vD d ∧ flatV v = true := by
  cases p <;> first | exact ⟨rfl, rfl⟩ | cases h
theorem vDs_of {K : PySem.W.Frag} {B : Hp} : ∀ {ds : List PyData} {vs : List V}, ds.all flatD = true → DqAll K B vs ds → vs = ds.map vD ∧ vs.all flatV = true
  | [], _, _, .nil => ⟨rfl, rfl⟩
  | d :: ds, _, h, .cons p t => by
    rw [List.all_cons, Bool.and_eq_true] at h
    obtain ⟨e1, f1⟩ := vD_of h.1 p
    obtain ⟨e2, f2⟩ := vDs_of h.2 t
    subst e1; subst e2
    exact ⟨rfl, by rw [List.all_cons, f1, f2]; rfl⟩
def rCntF (K : PySem.W.Frag) : V → List V → Hp → VK → Prop := fun x xs H Q => ∃ (p : Addr) (ys : List V) (y : V), x = .ref p ∧ xs = [y] ∧ SqL K H p ys ∧ flatV y = true ∧ ys.all flatV = true ∧ Q (.int ((ys.countP fun z => eqV z y : Nat) : Int)) H
theorem countU {y : V} : ∀ {ys : List V} {us : List Value}, Vals ys us → ys.all flatV = true → us.countP (eqU y) = ys.countP fun z => eqV z y
  | _, _, .nil, _ => rfl
  | _ :: _, _ :: _, .cons r t, f => by
    rw [List.all_cons, Bool.and_eq_true] at f
    rw [List.countP_cons, List.countP_cons, countU t f.2, eqU_of r f.1]
theorem mt_lcountF : MtR X "list.count" (rCntF X.K) := fun pins s σ H x xs v us Q I rx rxs h => by
  obtain ⟨p, ys, y, rfl, rfl, hs, fy, fys, q⟩ := h
  cases rx
  obtain ⟨u, rfl, ru⟩ := rxs.one
  obtain ⟨its, rv, ⟨⟨cls, dd, data, sl⟩, n, ho, hc, hdn, hd⟩, hlen⟩ := I.list hs
  simp only at hc hd
  subst hc; subst hd
  refine call_meets PySem.F.slot_list_count ⟨_, ho, rfl⟩ PySem.F.entry_list_count (PySem.F.args_list_count_2 _ _) (SeqAt.list_countAt p its.toArray n dd sl u (eqU y)) ⟨ho, fun z hz => mem_eqAt ru fy rv fys z (by simpa using hz), ?_⟩
  refine ⟨.int ((ys.countP fun z => eqV z y : Nat) : Int), H, I.tok _, ⟨s.toks, ?_⟩, q⟩
  rw [← countU rv fys]
def cntD (d : PyData) (ds : List PyData) : Nat := (ds.map vD).countP fun z => eqV z (vD d)
theorem de_mL1 {id : String} {name : Str} (c : Cv M N sc X) (slot : Slot "list" name id) (ty : typeOf (.builtin id) = pure (.type "method_descriptor")) (ho : DE M X o ρ (.list ds)) (he : DE M X e ρ d1) (hm : Mt M X id (.list ds) [d1] d)
    (hbase : attributeBase o name X.env (eval o X.env) = eval o X.env := by rfl)
    (hfew : ((backTo pos (starEach [e] X.env)).all (fun x => !x.1) && (backToKw pos (keywordEach [] X.env)).all (fun x => x.1.isSome) && decide ([e].length + ([] : List Keyword).length + (if ([] : List Keyword).isEmpty then 0 else 1) < 30)) = true := by rfl)
    (hline : (apos.endLine == pos.line) = true := by rfl) (hs : starEach [e] X.env = (false, eval e X.env) :: starEach [] X.env := by rfl) (hplain : (backTo pos (starEach [] X.env)).any (·.1) = false := by rfl) : DE M X (.Call (.Attribute o name apos) [e] [] pos) ρ d := by
  obtain ⟨r, hr, hq⟩ := hm
  refine de_of (pe_bm PySem.F.plainAttrs_list slot ty hr pe_sem (pa_cons pe_sem pa_nil hs) hbase hfew hline hs hplain) fun B F σ H I Q q => ho B F σ H I _ fun v H1 B1 s1 I1 p1 => ⟨?_, he B1 F σ H1 I1 _ fun v2 H2 B2 s2 I2 p2 => ?_⟩
  · cases p1 with
    | lst s al => exact tyV_lst (I1.bh _ _ s)
  · exact hq B2 F σ H2 ρ v [v2] I2 (dp_mono s2 p1) (.cons p2 .nil) Q fun v3 H3 B3 s3 I3 p3 => q v3 H3 B3 ((s1.trans s2).trans s3) I3 p3
theorem mt_cntD (h : ds.all flatD = true) (h1 : flatD d = true) : Mt M X "list.count" (.list ds) [d] (.int (cntD d ds)) := ⟨_, mt_lcountF, fun B F σ H ρ v vs I p0 p Q q => by
  obtain ⟨v1, rfl, p1⟩ := inv_all1 p
  cases p0 with
  | lst s al =>
    obtain ⟨e1, f1⟩ := vD_of h1 p1
    obtain ⟨e2, f2⟩ := vDs_of h al
    refine ⟨_, _, v1, rfl, rfl, SqL.of (I.bh _ _ s), f1, f2, ?_⟩
    rw [e1, e2]
    exact q _ _ _ (Same.refl B) I (.int _)⟩
theorem de_count (c : Cv M N sc X) (ho : DE M X o ρ (.list ds)) (he : DE M X e ρ d) (h : ds.all flatD = true) (h1 : flatD d = true)
    (hbase : attributeBase o "count" X.env (eval o X.env) = eval o X.env := by rfl)
    (hfew : ((backTo pos (starEach [e] X.env)).all (fun x => !x.1) && (backToKw pos (keywordEach [] X.env)).all (fun x => x.1.isSome) && decide ([e].length + ([] : List Keyword).length + (if ([] : List Keyword).isEmpty then 0 else 1) < 30)) = true := by rfl)
    (hline : (apos.endLine == pos.line) = true := by rfl) (hs : starEach [e] X.env = (false, eval e X.env) :: starEach [] X.env := by rfl) (hplain : (backTo pos (starEach [] X.env)).any (·.1) = false := by rfl) : DE M X (.Call (.Attribute o "count" apos) [e] [] pos) ρ (.int (cntD d ds)) :=
  de_mL1 c PySem.F.slot_list_count PySem.F.type_list_count ho he (mt_cntD h h1) hbase hfew hline hs hplain
theorem mt_idxD {j : Nat} (h : ds.all flatD = true) (h1 : flatD d = true) (hj : (ds.map vD)[j]? = some z') (hz : eqV z' (vD d) = true) (hn : ∀ (m : Nat) (z : V), m < j → (ds.map vD)[m]? = some z → eqV z (vD d) = false) : Mt M X "list.index" (.list ds) [d] (.int (j : Nat)) := ⟨_, mt_index, fun B F σ H ρ v vs I p0 p Q q => by
  obtain ⟨v1, rfl, p1⟩ := inv_all1 p
  cases p0 with
  | lst s al =>
    obtain ⟨e1, f1⟩ := vD_of h1 p1
    obtain ⟨e2, f2⟩ := vDs_of h al
    refine ⟨_, _, v1, j, z', rfl, rfl, SqL.of (I.bh _ _ s), f1, f2, by rw [e2]; exact hj, by rw [e1]; exact hz, fun m z hm hz => ?_, q _ _ _ (Same.refl B) I (.int _)⟩
    rw [e1]
    rw [e2] at hz
    exact hn m z hm hz⟩
theorem de_index {j : Nat} {z' : V} (c : Cv M N sc X) (ho : DE M X o ρ (.list ds)) (he : DE M X e ρ d) (h : ds.all flatD = true) (h1 : flatD d = true) (hj : (ds.map vD)[j]? = some z') (hz : eqV z' (vD d) = true) (hn : ∀ (m : Nat) (z : V), m < j → (ds.map vD)[m]? = some z → eqV z (vD d) = false)
    (hbase : attributeBase o "index" X.env (eval o X.env) = eval o X.env := by rfl)
    (hfew : ((backTo pos (starEach [e] X.env)).all (fun x => !x.1) && (backToKw pos (keywordEach [] X.env)).all (fun x => x.1.isSome) && decide ([e].length + ([] : List Keyword).length + (if ([] : List Keyword).isEmpty then 0 else 1) < 30)) = true := by rfl)
    (hline : (apos.endLine == pos.line) = true := by rfl) (hs : starEach [e] X.env = (false, eval e X.env) :: starEach [] X.env := by rfl) (hplain : (backTo pos (starEach [] X.env)).any (·.1) = false := by rfl) : DE M X (.Call (.Attribute o "index" apos) [e] [] pos) ρ (.int (j : Nat)) :=
  de_mL1 c PySem.F.slot_list_index PySem.F.type_list_index ho he (mt_idxD h h1 hj hz hn) hbase hfew hline hs hplain
/-! ### min, max of texts -/
def bestS (lt : List Nat → List Nat → Bool) (x : List Nat) (r : List (List Nat)) : List Nat := r.foldl (fun b y => if lt y b = true then y else b) x
theorem best_at {lt : List Nat → List Nat → Bool} {x : List Nat} {r : List (List Nat)} : ∀ k, k ≤ r.length → (x :: r)[argBest (fun i j => lt ((x :: r).getD i []) ((x :: r).getD j [])) k]? = some (bestS lt x (r.take k))
  | 0, _ => rfl
  | k + 1, hk => by
    have ih := best_at (lt := lt) (x := x) (r := r) k (by omega)
    have e : r.take (k + 1) = r.take k ++ [r[k]'(by omega)] := by rw [List.take_add_one, List.getElem?_eq_getElem (by omega : k < r.length)]; rfl
    have g1 : (x :: r).getD (k + 1) [] = r[k]'(by omega) := by rw [List.getD_eq_getElem?_getD, List.getElem?_cons_succ, List.getElem?_eq_getElem (by omega : k < r.length)]; rfl
    have g2 : (x :: r).getD (argBest (fun i j => lt ((x :: r).getD i []) ((x :: r).getD j [])) k) [] = bestS lt x (r.take k) := by rw [List.getD_eq_getElem?_getD, ih]; rfl
    unfold argBest
    rw [g1, g2, e]
    unfold bestS
    rw [List.foldl_append, List.foldl_cons, List.foldl_nil]
    unfold bestS at ih
    by_cases hc : lt (r[k]'(by omega)) (r.take k |>.foldl (fun b y => if lt y b = true then y else b) x) = true
    · rw [if_pos hc, if_pos hc, List.getElem?_cons_succ, List.getElem?_eq_getElem (by omega : k < r.length)]
    · rw [if_neg hc, if_neg hc]
      exact ih
theorem cmpOf_strs {prog : Program} {w : World} {A : Around} {op : CmpOp} {lt : List Nat → List Nat → Bool} (hop : ∀ (i j : List Nat) (t u : Tok) (s : Shared) (Q : Value → Shared → Prop) (E : Value → Shared → Prop), Q (.bool (lt i j)) s → wpAny (model prog w) A (richCompare op (.str ⟨i.toArray⟩ t) (.str ⟨j.toArray⟩ u)) Q E s)
    {ls : List (List Nat)} {its : List Value} (rv : Vals ((ls.map fun t => (⟨t.toArray⟩ : Str)).map V.str) its) : CmpOf prog w A op (fun i v => its.toArray[i]? = some v) (fun i j => lt (ls.getD i []) (ls.getD j [])) := fun i j vi vj s Q E hi hj h => by
  have get : ∀ {i : Nat} {v : Value}, its.toArray[i]? = some v → ∃ t, v = .str ⟨(ls.getD i []).toArray⟩ t := fun {i v} hi => by
    have hi : its[i]? = some v := by simpa using hi
    have hl := rv.length
    rw [List.length_map, List.length_map] at hl
    have hlt : i < ls.length := by have := (List.getElem?_eq_some_iff.mp hi).1; omega
    have e : ((ls.map fun t => (⟨t.toArray⟩ : Str)).map V.str)[i]? = some (V.str ⟨(ls.getD i []).toArray⟩) := by
      rw [List.getElem?_map, List.getElem?_map, List.getElem?_eq_getElem hlt, List.getD_eq_getElem?_getD, List.getElem?_eq_getElem hlt]
      rfl
    obtain ⟨u, hu, ru⟩ := rv.get e
    rw [hi] at hu
    cases hu
    exact ru
  obtain ⟨t, rfl⟩ := get hi
  obtain ⟨u, rfl⟩ := get hj
  exact hop _ _ t u s Q E h
def ltB (a b : List Nat) : Bool := decide (a < b)
def gtB (a b : List Nat) : Bool := decide (b < a)
theorem hop_lt {prog : Program} {w : World} {A : Around} (i j : List Nat) (t u : Tok) (s : Shared) (Q : Value → Shared → Prop) (E : Value → Shared → Prop) (h : Q (.bool (ltB i j)) s) : wpAny (model prog w) A (richCompare .Lt (.str ⟨i.toArray⟩ t) (.str ⟨j.toArray⟩ u)) Q E s :=
  richCompare_gives (op := .Lt) (typeIs_str s _ _) (typeIs_str s _ _) PySem.F.slot_str_lt PySem.F.entry_str_lt (PySem.F.args_str_lt_2 _ _) (gives_str_lt _ _ _ _) (fun x => nomatch x) h
theorem hop_gt {prog : Program} {w : World} {A : Around} (i j : List Nat) (t u : Tok) (s : Shared) (Q : Value → Shared → Prop) (E : Value → Shared → Prop) (h : Q (.bool (gtB i j)) s) : wpAny (model prog w) A (richCompare .Gt (.str ⟨i.toArray⟩ t) (.str ⟨j.toArray⟩ u)) Q E s :=
  richCompare_gives (op := .Gt) (typeIs_str s _ _) (typeIs_str s _ _) PySem.F.slot_str_gt PySem.F.entry_str_gt (PySem.F.args_str_gt_2 _ _) (gives_str_gt _ _ _ _) (fun x => nomatch x) h
def rBest (K : PySem.W.Frag) (lt : List Nat → List Nat → Bool) : List V → Hp → VK → Prop := fun xs H Q => ∃ (p : Addr) (x : List Nat) (r : List (List Nat)), xs = [.ref p] ∧ SqL K H p (((x :: r).map fun t => (⟨t.toArray⟩ : Str)).map V.str) ∧ Q (.str ⟨(bestS lt x r).toArray⟩) H
theorem best_val {lt : List Nat → List Nat → Bool} {x : List Nat} {r : List (List Nat)} {its : List Value} {v : Value} (rv : Vals (((x :: r).map fun t => (⟨t.toArray⟩ : Str)).map V.str) its) (h : its.toArray[argBest (fun i j => lt ((x :: r).getD i []) ((x :: r).getD j [])) (its.toArray.size - 1)]? = some v) : RelV (.str ⟨(bestS lt x r).toArray⟩) v := by
  have hl := rv.length
  rw [List.length_map, List.length_map, List.length_cons] at hl
  have e1 : its.toArray.size - 1 = r.length := by rw [List.size_toArray]; omega
  rw [e1] at h
  have h2 := best_at (lt := lt) (x := x) (r := r) r.length (Nat.le_refl _)
  rw [List.take_of_length_le (Nat.le_refl _)] at h2
  have e : (((x :: r).map fun t => (⟨t.toArray⟩ : Str)).map V.str)[argBest (fun i j => lt ((x :: r).getD i []) ((x :: r).getD j [])) r.length]? = some (V.str ⟨(bestS lt x r).toArray⟩) := by
    rw [List.getElem?_map, List.getElem?_map, h2]
    rfl
  obtain ⟨u, hu, ru⟩ := rv.get e
  have h : its[argBest (fun i j => lt ((x :: r).getD i []) ((x :: r).getD j [])) r.length]? = some v := by simpa using h
  rw [h] at hu
  cases hu
  exact ru
theorem call_minT (hc : X.calm = true) : CallR X (.builtin "min") (rBest X.K ltB) := fun pins s σ H xs us Q I r h => by
  obtain ⟨p, x, rs, rfl, hs, q⟩ := h
  obtain ⟨its, rv, hl, _⟩ := I.list hs
  rw [Vals.ref1 r]
  have hz := rv.length
  rw [List.length_map, List.length_map, List.length_cons] at hz
  refine call_min_walk (iter_anyList hl.isList fun s₂ e st hfp hlI => ?_)
  subst e
  refine ⟨_, _, _, _, _, _, _, rfl, Walks.list (A := X.A.in1) (I.ok.hd hc) _ p hlI its.toArray, st, hfp, by rw [List.size_toArray]; omega, cmpOf_strs hop_lt rv, fun v h' tk hP hk => ?_⟩
  exact ⟨_, H, I.kept (PySem.old_kept hk), best_val rv hP, q⟩
theorem call_maxT (hc : X.calm = true) : CallR X (.builtin "max") (rBest X.K gtB) := fun pins s σ H xs us Q I r h => by
  obtain ⟨p, x, rs, rfl, hs, q⟩ := h
  obtain ⟨its, rv, hl, _⟩ := I.list hs
  rw [Vals.ref1 r]
  have hz := rv.length
  rw [List.length_map, List.length_map, List.length_cons] at hz
  refine call_max_walk (iter_anyList hl.isList fun s₂ e st hfp hlI => ?_)
  subst e
  refine ⟨_, _, _, _, _, _, _, rfl, Walks.list (A := X.A.in1) (I.ok.hd hc) _ p hlI its.toArray, st, hfp, by rw [List.size_toArray]; omega, cmpOf_strs hop_gt rv, fun v h' tk hP hk => ?_⟩
  exact ⟨_, H, I.kept (PySem.old_kept hk), best_val rv hP, q⟩
theorem cl_minS {x : List Nat} {r : List (List Nat)} (hc : X.calm = true) : Cl M X (.builtin "min") [.list ((x :: r).map S)] (S (bestS ltB x r)) := ⟨_, call_minT hc, fun B F σ H ρ vs I p Q q => by
  obtain ⟨v, rfl, p1⟩ := inv_all1 p
  cases p1 with
  | lst s al => exact ⟨_, x, r, rfl, SqL.of (by rw [← strs_inv al]; exact I.bh _ _ s), q _ _ _ (Same.refl B) I (.str _)⟩⟩
theorem cl_maxS {x : List Nat} {r : List (List Nat)} (hc : X.calm = true) : Cl M X (.builtin "max") [.list ((x :: r).map S)] (S (bestS gtB x r)) := ⟨_, call_maxT hc, fun B F σ H ρ vs I p Q q => by
  obtain ⟨v, rfl, p1⟩ := inv_all1 p
  cases p1 with
  | lst s al => exact ⟨_, x, r, rfl, SqL.of (by rw [← strs_inv al]; exact I.bh _ _ s), q _ _ _ (Same.refl B) I (.str _)⟩⟩
theorem nlt_trans {a b c : List Nat} (h1 : ¬ a < b) (h2 : ¬ b < c) : ¬ a < c := by
  have q1 : b ≤ a := List.not_lt.mp h1
  have q2 : c ≤ b := List.not_lt.mp h2
  exact List.not_lt.mpr (List.le_trans q2 q1)
theorem bestS_min (x : List Nat) : ∀ (r : List (List Nat)), bestS ltB x r ∈ x :: r ∧ ∀ y ∈ x :: r, ¬ y < bestS ltB x r := fun r => by
  unfold bestS
  induction r generalizing x with
  | nil => exact ⟨by simp, fun y hy => by simp at hy; subst hy; exact List.lt_irrefl _⟩
  | cons z r ih =>
    rw [List.foldl_cons]
    by_cases hc : ltB z x = true
    · rw [if_pos hc]
      obtain ⟨h1, h2⟩ := ih z
      refine ⟨List.mem_cons_of_mem _ h1, fun y hy => ?_⟩
      rcases List.mem_cons.mp hy with e | e
      · subst e
        exact fun q => nlt_trans (fun w => List.lt_irrefl _ (List.lt_trans w (of_decide_eq_true hc))) (h2 z List.mem_cons_self) q
      · exact h2 y e
    · rw [if_neg hc]
      obtain ⟨h1, h2⟩ := ih x
      refine ⟨?_, fun y hy => ?_⟩
      · rcases List.mem_cons.mp h1 with e | e
        · rw [e]; exact List.mem_cons_self
        · exact List.mem_cons_of_mem _ (List.mem_cons_of_mem _ e)
      · rcases List.mem_cons.mp hy with e | e
        · exact h2 y (by rw [e]; exact List.mem_cons_self)
        · rcases List.mem_cons.mp e with e | e
          · rw [e]
            exact nlt_trans (fun w => hc (decide_eq_true w)) (h2 x List.mem_cons_self)
          · exact h2 y (List.mem_cons_of_mem _ e)
theorem bestS_max (x : List Nat) : ∀ (r : List (List Nat)), bestS gtB x r ∈ x :: r ∧ ∀ y ∈ x :: r, ¬ bestS gtB x r < y := fun r => by
  unfold bestS
  induction r generalizing x with
  | nil => exact ⟨by simp, fun y hy => by simp at hy; subst hy; exact List.lt_irrefl _⟩
  | cons z r ih =>
    rw [List.foldl_cons]
    by_cases hc : gtB z x = true
    · rw [if_pos hc]
      obtain ⟨h1, h2⟩ := ih z
      refine ⟨List.mem_cons_of_mem _ h1, fun y hy => ?_⟩
      rcases List.mem_cons.mp hy with e | e
      · subst e
        exact fun q => nlt_trans (h2 z List.mem_cons_self) (fun w => List.lt_irrefl _ (List.lt_trans w (of_decide_eq_true hc))) q
      · exact h2 y e
    · rw [if_neg hc]
      obtain ⟨h1, h2⟩ := ih x
      refine ⟨?_, fun y hy => ?_⟩
      · rcases List.mem_cons.mp h1 with e | e
        · rw [e]; exact List.mem_cons_self
        · exact List.mem_cons_of_mem _ (List.mem_cons_of_mem _ e)
      · rcases List.mem_cons.mp hy with e | e
        · exact h2 y (by rw [e]; exact List.mem_cons_self)
        · rcases List.mem_cons.mp e with e | e
          · rw [e]
            exact nlt_trans (h2 x List.mem_cons_self) (fun w => hc (decide_eq_true w))
          · exact h2 y (List.mem_cons_of_mem _ e)
/-- the least is the greatest: all are alike -/
theorem best_same {x : List Nat} {r : List (List Nat)} : bestS ltB x r = bestS gtB x r ↔ ∀ y ∈ r, y = x := by
  obtain ⟨h1, h2⟩ := bestS_min x r
  obtain ⟨h3, h4⟩ := bestS_max x r
  constructor
  · intro e
    have all : ∀ y ∈ x :: r, y = bestS ltB x r := fun y hy => by
      have q1 : bestS ltB x r ≤ y := List.not_lt.mp (h2 y hy)
      have q2 : y ≤ bestS ltB x r := List.not_lt.mp (by rw [e]; exact h4 y hy)
      exact List.le_antisymm q2 q1
    intro y hy
    rw [all y (List.mem_cons_of_mem _ hy), ← all x List.mem_cons_self]
  · intro e
    have all : ∀ y ∈ x :: r, y = x := fun y hy => (List.mem_cons.mp hy).elim id (e y)
    rw [all _ h1, all _ h3]
end
end Dl

namespace K
open PySem PySem.Spec PyProof.Rows L2 Dl
def topS (i : Nat) : Stmt := PySem.Challenge.pw_tagasks_k02_heard.main.body.getD i (.Pass ⟨0, 0, 0, 0⟩)
structure Bl (mg : Str → Option Value) : Prop where
  ValueError : mg "ValueError" = none
  range : mg "range" = none
  tuple : mg "tuple" = none
  isinstance : mg "isinstance" = none
  min : mg "min" = none
  max : mg "max" = none
  len : mg "len" = none
  all : mg "all" = none
  bool : mg "bool" = none
  sorted : mg "sorted" = none
  int : mg "int" = none
  str : mg "str" = none
  zip : mg "zip" = none
variable {M : Md}
local macro_rules | `(tactic| walk_at "sd") => `(tactic| first | assumption | omega | decide | (constructor <;> first | assumption | omega | decide) | (refine ⟨?_, ?_, ?_⟩ <;> first | assumption | omega | decide))
local macro_rules | `(tactic| walk_at "sz") => `(tactic| first | omega | decide | (simp only [List.length_cons, List.length_nil, List.length_map, List.length_append, List.length_range, List.length_replicate]; omega))
local macro_rules | `(tactic| walk_at "tr") => `(tactic| first | trivial | exact tr_S (by walk_at "sz"))
local macro_rules | `(tactic| walk_at "rg") => `(tactic| (refine ⟨?_, ?_⟩ <;> first | omega | (refine ⟨?_, ?_⟩ <;> omega) | (refine ⟨?_, ?_, ?_⟩ <;> omega)))
local macro_rules | `(tactic| walk_at "le") => `(tactic| first | exact le_nil | (refine le_same ?_; walk_at "le") | (refine le_drop ?_; walk_at "le"))
local macro_rules | `(tactic| walk_at "o_add") => `(tactic| first | exact o_add | (with_reducible refine o_addS ?_; walk_at "sz") | (with_reducible refine o_addL ?_; walk_at "sz") | (with_reducible refine o_addT (Cn.toCv (by assumption)) ?_; walk_at "sz"))
local macro_rules | `(tactic| walk_at "o_sub") => `(tactic| exact o_sub)
local macro_rules | `(tactic| walk_at "o_mul") => `(tactic| first | (refine o_mul (.inl ?_); omega) | (refine o_mul (.inr ?_); omega) | (with_reducible refine o_mulS ?_ ?_; omega; walk_at "sz") | (refine o_mulW ?_; walk_at "wide"))
local macro_rules | `(tactic| walk_at "o_mod") => `(tactic| (refine o_mod ?_; first | assumption | omega))
local macro_rules | `(tactic| walk_at "o_fdiv") => `(tactic| first | (refine o_fdiv ?_; constructor <;> omega) | (refine o_fdivW ?_; walk_at "wided"))
local macro_rules | `(tactic| walk_at "o_lt") => `(tactic| first | exact o_lt | exact o_ltS)
local macro_rules | `(tactic| walk_at "o_gt") => `(tactic| exact o_gt)
local macro_rules | `(tactic| walk_at "o_ge") => `(tactic| exact o_ge)
local macro_rules | `(tactic| walk_at "o_le") => `(tactic| exact o_le)
local macro_rules | `(tactic| walk_at "o_cmp") => `(tactic| first | exact o_le | exact o_lt)
local macro_rules | `(tactic| walk_at "o_eq") => `(tactic| first | exact o_eqI | exact o_eqSS | (with_reducible refine o_eqD (Cn.toCv (by assumption)) ?_ ?_ <;> walk_at "sh"))
local macro_rules | `(tactic| walk_at "o_ne") => `(tactic| first | exact o_neI | exact o_neSS | (with_reducible refine o_neD (Cn.toCv (by assumption)) ?_ ?_ <;> walk_at "sh"))
local macro_rules | `(tactic| walk_at "o_is") => `(tactic| first | exact o_isN | exact o_isB)
local macro_rules | `(tactic| walk_at "o_isn") => `(tactic| first | exact o_notN | exact o_isnB)
local macro_rules | `(tactic| walk_at "o_in") => `(tactic| exact o_inS)
local macro_rules | `(tactic| walk_at "o_ni") => `(tactic| exact o_niS)
local macro_rules | `(tactic| walk_at "ix") => `(tactic| first | exact ix_t (Cn.toCv (by assumption)) rfl | exact ix_l (Cn.toCv (by assumption)) rfl | exact ix_t (Cn.toCv (by assumption)) (atD_of (j := 0) rfl rfl) | exact ix_l (Cn.toCv (by assumption)) (atD_of (j := 0) rfl rfl) | (refine ix_s ?_ ?_; (omega); (assumption)))
local macro_rules | `(tactic| walk_at "sl") => `(tactic| first | (with_reducible refine sl_s ?_; walk_at "sz") | exact sl_t (Cn.toCv (by assumption)) | exact sl_l (Cn.toCv (by assumption)))
local macro_rules | `(tactic| walk_at "c_abs") => `(tactic| exact cl_abs)
local macro_rules | `(tactic| walk_at "c_max") => `(tactic| first | exact cl_max2 (Cn.calm (by assumption)) | exact cl_maxS (Cn.calm (by assumption)))
local macro_rules | `(tactic| walk_at "c_min") => `(tactic| first | exact cl_min2 (Cn.calm (by assumption)) | exact cl_minS (Cn.calm (by assumption)))
local macro_rules | `(tactic| walk_at "c_len") => `(tactic| first | exact cl_len_scr (Cn.toCv (by assumption)) | exact cl_len_lst (Cn.toCv (by assumption)) | exact cl_len_tup (Cn.toCv (by assumption)) | (with_reducible refine cl_lenS ?_; walk_at "sz"))
local macro_rules | `(tactic| walk_at "c_tuple") => `(tactic| first | exact cl_tuple_lst (Cn.toCv (by assumption)) | exact cl_tuple_tup (Cn.toCv (by assumption)))
local macro_rules | `(tactic| walk_at "c_list") => `(tactic| first | exact cl_list_tup (Cn.toCv (by assumption)) | exact cl_list_lst (Cn.toCv (by assumption)))
local macro_rules | `(tactic| walk_at "c_str") => `(tactic| (refine cl_strBit ?_; omega))
local macro_rules | `(tactic| walk_at "c_int") => `(tactic| first | exact cl_intBool | (refine cl_intSign ?_; assumption))
local macro_rules | `(tactic| walk_at "c_all") => `(tactic| exact cl_all (Cn.calm (by assumption)))
local macro_rules | `(tactic| walk_at "c_any") => `(tactic| exact cl_any (Cn.calm (by assumption)))
local macro_rules | `(tactic| walk_at "sh") => `(tactic| first | rfl | decide)
local macro_rules | `(tactic| walk_at "lens") => `(tactic| first | assumption | (intro t ht; have q := ‹∀ t, t ∈ _ → List.length t = _› t ht; omega))
local macro_rules | `(tactic| walk_at "lenn") => `(tactic| assumption)
local macro_rules | `(tactic| walk_at "jz") => `(tactic| walk_at "sz")
theorem tr_S {l : List Nat} (h : l.length ≤ 100000) : truOk (S l) := by show l.toArray.size ≤ _; rw [List.size_toArray]; exact Evl.sz_of h
theorem nope {b : Bool} {p : Prop} (hb : (!b) = true) (h : b = true) : p := by
  rw [h] at hb
  cases hb
local macro_rules | `(tactic| walk_at "tags") => `(tactic| assumption)
theorem kt_NoneType_tuple : kitB "NoneType" "tuple" = some false := by decide +kernel
theorem kt_NoneType_bool : kitB "NoneType" "bool" = some false := by decide +kernel
theorem kt_NoneType_int : kitB "NoneType" "int" = some false := by decide +kernel
theorem kt_NoneType_str : kitB "NoneType" "str" = some false := by decide +kernel
theorem kt_NoneType_list : kitB "NoneType" "list" = some false := by decide +kernel
theorem kt_bool_tuple : kitB "bool" "tuple" = some false := by decide +kernel
theorem kt_bool_bool : kitB "bool" "bool" = some true := by decide +kernel
theorem kt_bool_int : kitB "bool" "int" = some true := by decide +kernel
theorem kt_bool_str : kitB "bool" "str" = some false := by decide +kernel
theorem kt_bool_list : kitB "bool" "list" = some false := by decide +kernel
theorem kt_int_tuple : kitB "int" "tuple" = some false := by decide +kernel
theorem kt_int_bool : kitB "int" "bool" = some false := by decide +kernel
theorem kt_int_int : kitB "int" "int" = some true := by decide +kernel
theorem kt_int_str : kitB "int" "str" = some false := by decide +kernel
theorem kt_int_list : kitB "int" "list" = some false := by decide +kernel
theorem kt_str_tuple : kitB "str" "tuple" = some false := by decide +kernel
theorem kt_str_bool : kitB "str" "bool" = some false := by decide +kernel
theorem kt_str_int : kitB "str" "int" = some false := by decide +kernel
theorem kt_str_str : kitB "str" "str" = some true := by decide +kernel
theorem kt_str_list : kitB "str" "list" = some false := by decide +kernel
theorem kt_list_tuple : kitB "list" "tuple" = some false := by decide +kernel
theorem kt_list_bool : kitB "list" "bool" = some false := by decide +kernel
theorem kt_list_int : kitB "list" "int" = some false := by decide +kernel
theorem kt_list_str : kitB "list" "str" = some false := by decide +kernel
theorem kt_list_list : kitB "list" "list" = some true := by decide +kernel
theorem kt_tuple_tuple : kitB "tuple" "tuple" = some true := by decide +kernel
theorem kt_tuple_bool : kitB "tuple" "bool" = some false := by decide +kernel
theorem kt_tuple_int : kitB "tuple" "int" = some false := by decide +kernel
theorem kt_tuple_str : kitB "tuple" "str" = some false := by decide +kernel
theorem kt_tuple_list : kitB "tuple" "list" = some false := by decide +kernel
local macro_rules | `(tactic| walk_at "kit") => `(tactic| (dsimp only [tyD]; with_reducible first | exact kit_ty kt_NoneType_tuple | exact kit_ty kt_NoneType_bool | exact kit_ty kt_NoneType_int | exact kit_ty kt_NoneType_str | exact kit_ty kt_NoneType_list | exact kit_ty kt_bool_tuple | exact kit_ty kt_bool_bool | exact kit_ty kt_bool_int | exact kit_ty kt_bool_str | exact kit_ty kt_bool_list | exact kit_ty kt_int_tuple | exact kit_ty kt_int_bool | exact kit_ty kt_int_int | exact kit_ty kt_int_str | exact kit_ty kt_int_list | exact kit_ty kt_str_tuple | exact kit_ty kt_str_bool | exact kit_ty kt_str_int | exact kit_ty kt_str_str | exact kit_ty kt_str_list | exact kit_ty kt_list_tuple | exact kit_ty kt_list_bool | exact kit_ty kt_list_int | exact kit_ty kt_list_str | exact kit_ty kt_list_list | exact kit_ty kt_tuple_tuple | exact kit_ty kt_tuple_bool | exact kit_ty kt_tuple_int | exact kit_ty kt_tuple_str | exact kit_ty kt_tuple_list))
local macro_rules | `(tactic| walk_at "kits") => `(tactic| (dsimp only [tyD]; first | exact kitAny_cons (b := true) (kit_ty kt_int_int) (fun h => by cases h) (fun _ => rfl) | exact kitAny_cons (b := false) (kit_ty kt_str_int) (fun _ => kitAny_cons (b := true) (kit_ty kt_str_str) (fun h => by cases h) (fun _ => rfl)) (fun h => by cases h)))

def cellF (ns : List Int) (k : Int) : Int := ns.getD k.toNat 0
theorem cell_ix {ns : List Int} {k : Int} (h0 : 0 ≤ k) (h : k < ns.length) : atI ns k = some (cellF ns k) := by
  have e : k = ((k.toNat : Nat) : Int) := by omega
  have hl : k.toNat < ns.length := by omega
  unfold atI
  rw [e, Evl.ixN_nat hl]
  show ns[k.toNat]? = _
  unfold cellF
  rw [List.getD_eq_getElem?_getD, Int.toNat_natCast, List.getElem?_eq_getElem hl]
  rfl
local macro_rules | `(tactic| walk_at "ix") => `(tactic| exact ix_scr (Cn.toCv (by assumption)) (cell_ix (by omega) (by assumption)))

abbrev s__law_cell : Stmt := topS 15
abbrev n__law_cell : List Str := ["script", "k"]
theorem sc__law_cell : FnScope n__law_cell ["script", "k"] (defScope s__law_cell) := ⟨rfl, rfl, rfl, by decide +kernel, rfl, by decide +kernel, by decide +kernel⟩
def phi__law_cell : List PyData → Out → Prop := fun ds o => ∃ (ns : List Int) (k : Int), ds = [scrD ns, .int k] ∧ (0 ≤ k ∧ k ≤ 100) ∧ o = .ret (.int (cellF ns k))
theorem i__law_cell {ns : List Int} {k : Int} (h1 : 0 ≤ k ∧ k ≤ 100) : phi__law_cell [scrD ns, .int k] (.ret (.int (cellF ns k))) := ⟨_, _, rfl, h1, rfl⟩
local macro_rules | `(tactic| walk_at "f__law_cell") => `(tactic| exact i__law_cell (by walk_at "sd"))
theorem ok__law_cell (g : Bl M.mg) {f : Addr} {fd : FuncData} (F : Fun M.K "_law_cell" "_law_cell" s__law_cell f fd) (hm : M.mg "_law_cell" = some (.ref f)) (hb : Binds M.K fd ["script", "k"] []) : Fok M 1 "_law_cell" (phi__law_cell) := by
  refine fok_mk (N := n__law_cell) F hm hb sc__law_cell (fun ds o h => by obtain ⟨ns, k, rfl, _⟩ := h; rfl) fun X W ds o c h => ?_
  obtain ⟨ns, k, rfl, h1, rfl⟩ := h
  show DB M X W _ [.v (scrD ns), .v (.int k)] _ _
  refine db_cons (ds_if (dt_cmp (dv c.toCv G1 G1) (de_callB c.toCv g.len boot_len (da_cons (dv c.toCv G0 G0) da_nil) (by walk_at "c_len")) (by walk_at "o_lt") (nomark _)) (fun hb => ?_) (fun hb => db_end ?_))
  · skip
    have hk : k < ns.length := by simpa using hb
    exact db_cons (ds_ret (de_ix (dv c.toCv G0 G0) (dv c.toCv G1 G1) (by walk_at "ix")) rfl)
  refine db_cons (ds_ret de_int ?_)
  show Out.ret (PyData.int (cellF ns k)) = Out.ret (PyData.int 0)
  have hk : ¬ k < ns.length := by simpa using hb
  unfold cellF
  rw [List.getD_eq_getElem?_getD, List.getElem?_eq_none (by omega)]
  rfl
def mixF (c p m : Int) : Int := (c * 48271 % p) * (c * 48271 % p + 7) % p % m
theorem mix_in {c p m : Int} (h : 0 < m) : 0 ≤ mixF c p m ∧ mixF c p m < m := ⟨Int.emod_nonneg _ (by omega), Int.emod_lt_of_pos _ h⟩
abbrev s__law_mix : Stmt := topS 16
abbrev n__law_mix : List Str := ["cell", "prime", "many", "blend"]
theorem sc__law_mix : FnScope n__law_mix ["cell", "prime", "many"] (defScope s__law_mix) := ⟨rfl, rfl, rfl, by decide +kernel, rfl, by decide +kernel, by decide +kernel⟩
def phi__law_mix : List PyData → Out → Prop := fun ds o => ∃ (w p m : Int), ds = [.int w, .int p, .int m] ∧ (0 < p ∧ p < 100000) ∧ (0 < m) ∧ o = .ret (.int (mixF w p m))
theorem i__law_mix {w p m : Int} (h1 : 0 < p ∧ p < 100000) (h2 : 0 < m) : phi__law_mix [.int w, .int p, .int m] (.ret (.int (mixF w p m))) := ⟨_, _, _, rfl, h1, h2, rfl⟩
local macro_rules | `(tactic| walk_at "f__law_mix") => `(tactic| exact i__law_mix (by walk_at "sd") (by walk_at "sd"))
theorem ok__law_mix (g : Bl M.mg) {f : Addr} {fd : FuncData} (F : Fun M.K "_law_mix" "_law_mix" s__law_mix f fd) (hm : M.mg "_law_mix" = some (.ref f)) (hb : Binds M.K fd ["cell", "prime", "many"] []) : Fok M 1 "_law_mix" (phi__law_mix) := by
  refine fok_mk (N := n__law_mix) F hm hb sc__law_mix (fun ds o h => by obtain ⟨w, p, m, rfl, _⟩ := h; rfl) fun X W ds o c h => ?_
  obtain ⟨w, p, m, rfl, h1, h2, rfl⟩ := h
  show DB M X W _ [.v (.int w), .v (.int p), .v (.int m), .no] _ _
  refine db_cons (ds_set c.toCv G3 (de_bin (de_bin (dv c.toCv G0 G0) de_int (by walk_at "o_mul")) (dv c.toCv G1 G1) (by walk_at "o_mod")) T3 ?_)
  have b1 := Int.emod_nonneg (w * 48271) (show p ≠ 0 by omega)
  have b2 := Int.emod_lt_of_pos (w * 48271) (show 0 < p by omega)
  exact db_cons (ds_ret (de_bin (de_bin (de_bin (dv c.toCv G3 G3) (de_bin (dv c.toCv G3 G3) de_int (by walk_at "o_add")) (by walk_at "o_mul")) (dv c.toCv G1 G1) (by walk_at "o_mod")) (dv c.toCv G2 G2) (by walk_at "o_mod")) rfl)
/-! ### tags and lots -/
abbrev Tag := List Nat
def plF (p : Int) : Nat → Int
  | 0 => p
  | i + 1 => plF p i / 2
def bitsF (p : Int) : Nat → Tag
  | 0 => []
  | i + 1 => (48 + (plF p i % 2).toNat) :: bitsF p i
def IsTag (n : Nat) (t : Tag) : Prop := t.length = n ∧ ∀ q ∈ t, q = 48 ∨ q = 49
theorem bits_tag (p : Int) : ∀ i, IsTag i (bitsF p i)
  | 0 => ⟨rfl, fun q h => by cases h⟩
  | i + 1 => by
    obtain ⟨h1, h2⟩ := bits_tag p i
    refine ⟨by show (bitsF p i).length + 1 = _; rw [h1], fun q h => ?_⟩
    rcases List.mem_cons.mp h with h | h
    · have := Int.emod_two_eq (plF p i)
      omega
    · exact h2 q h
theorem bits_len (p : Int) (i : Nat) : (bitsF p i).length = i := (bits_tag p i).1
def longF (c : Int) : Int := if decide (mixF c 9967 3 = 0) = true then 1 + mixF c 9973 10 else 3 + mixF c 9949 4
theorem long_in (c : Int) : 1 ≤ longF c ∧ longF c ≤ 10 := by
  have h1 := mix_in (c := c) (p := 9973) (m := 10) (by decide)
  have h2 := mix_in (c := c) (p := 9949) (m := 4) (by decide)
  unfold longF
  split <;> omega
def placeF (c n : Int) (i : Nat) : Int := if decide (mixF c 9941 3 = 0) = true then (mixF c 9931 (2 ^ n.toNat) / 8 * 8 + mixF (c + 37 * (0 + (i : Int))) 9923 8) % 2 ^ n.toNat else mixF (c + 37 * (0 + (i : Int))) 9907 (2 ^ n.toNat)
def addT (l : List Tag) (t : Tag) : List Tag := if t ∈ l then l else l ++ [t]
def rowsF (c n : Int) : Nat → List Tag
  | 0 => []
  | i + 1 => addT (rowsF c n i) (bitsF (placeF c n i) n.toNat)
def kvT (l : List Tag) : List (Key × PyData) := l.map fun t => (Sum.inr ⟨t.toArray⟩, .bool true)
theorem put_addT (l : List Tag) (t : Tag) : putD (kvT l) (Sum.inr ⟨t.toArray⟩) (.bool true) = kvT (addT l t) := by
  have inj : ∀ u : Tag, ((Sum.inr ⟨u.toArray⟩ : Key) = Sum.inr ⟨t.toArray⟩) ↔ u = t := fun u => ⟨fun h => by injection h with h; exact str_inj h, fun h => by rw [h]⟩
  have any : ((kvT l).any fun kv => decide (kv.1 = (Sum.inr ⟨t.toArray⟩ : Key))) = decide (t ∈ l) := by
    unfold kvT
    rw [List.any_map]
    by_cases h : t ∈ l
    · rw [decide_eq_true h]
      exact List.any_eq_true.mpr ⟨t, h, decide_eq_true rfl⟩
    · rw [decide_eq_false h]
      refine List.any_eq_false.mpr fun u hu z => h ?_
      have z := of_decide_eq_true z
      rw [← (inj u).mp z]
      exact hu
  unfold putD addT
  rw [any]
  by_cases h : t ∈ l
  · rw [if_pos (decide_eq_true h), if_pos h]
    unfold kvT
    rw [List.map_map]
    refine List.map_congr_left fun u _ => ?_
    show (if (Sum.inr ⟨u.toArray⟩ : Key) = Sum.inr ⟨t.toArray⟩ then _ else _) = _
    split <;> rfl
  · rw [if_neg (by rw [decide_eq_false h]; exact Bool.false_ne_true), if_neg h]
    unfold kvT
    rw [List.map_append]
    rfl
theorem rows_ok (c n : Int) : ∀ i, (rowsF c n i).Nodup ∧ (rowsF c n i).length ≤ i ∧ ∀ t ∈ rowsF c n i, IsTag n.toNat t
  | 0 => ⟨List.nodup_nil, Nat.le_refl _, fun t h => by cases h⟩
  | i + 1 => by
    obtain ⟨h1, h2, h3⟩ := rows_ok c n i
    unfold rowsF addT
    split
    · exact ⟨h1, by omega, h3⟩
    · rename_i hn
      refine ⟨List.nodup_append.mpr ⟨h1, by simp, fun a ha b hb e => ?_⟩, by rw [List.length_append]; simp; omega, fun t ht => ?_⟩
      · simp at hb
        subst hb
        exact hn (e ▸ ha)
      · rcases List.mem_append.mp ht with h | h
        · exact h3 t h
        · simp at h
          subst h
          exact bits_tag _ _
def lotF (c n m : Int) : List Tag := sortS (rowsF c n (mixF c 9929 (m + 1)).toNat)
/-- a lot: tags of one length, rising -/
structure IsLot (n : Nat) (l : List Tag) : Prop where
  tg : ∀ t ∈ l, IsTag n t
  up : l.Pairwise (· < ·)
theorem lot_ok (c n m : Int) (hm : 0 ≤ m) : IsLot n.toNat (lotF c n m) ∧ (lotF c n m).length ≤ m.toNat := by
  obtain ⟨h1, h2, h3⟩ := rows_ok c n (mixF c 9929 (m + 1)).toNat
  have hp := sortS_perm (rowsF c n (mixF c 9929 (m + 1)).toNat)
  have hs := sortS_pw (rowsF c n (mixF c 9929 (m + 1)).toNat)
  have hx := mix_in (c := c) (p := 9929) (m := m + 1) (by omega)
  have hn : (lotF c n m).Nodup := hp.nodup_iff.mpr h1
  refine ⟨⟨fun t ht => h3 t (hp.mem_iff.mp ht), ?_⟩, by show (sortS _).length ≤ _; rw [hp.length_eq]; omega⟩
  have := List.Pairwise.and hs hn
  refine this.imp fun {a b} h => ?_
  have q : a ≤ b := by
    have := h.1
    unfold leS at this
    rw [Bool.not_eq_true', decide_eq_false_iff_not] at this
    exact List.not_lt.mp this
  rcases List.le_iff_lt_or_eq.mp q with z | z
  · exact z
  · exact absurd z h.2

abbrev s__law_tag : Stmt := topS 18
abbrev n__law_tag : List Str := ["place", "long", "gathered", "k"]
theorem sc__law_tag : FnScope n__law_tag ["place", "long"] (defScope s__law_tag) := ⟨rfl, rfl, rfl, by decide +kernel, rfl, by decide +kernel, by decide +kernel⟩
def phi__law_tag : List PyData → Out → Prop := fun ds o => ∃ (p n : Int), ds = [.int p, .int n] ∧ (0 ≤ n ∧ n ≤ 1000) ∧ o = .ret (S (bitsF p n.toNat))
theorem i__law_tag {p n : Int} (h1 : 0 ≤ n ∧ n ≤ 1000) : phi__law_tag [.int p, .int n] (.ret (S (bitsF p n.toNat))) := ⟨_, _, rfl, h1, rfl⟩
local macro_rules | `(tactic| walk_at "f__law_tag") => `(tactic| exact i__law_tag (by walk_at "sd"))
theorem ok__law_tag (g : Bl M.mg) {f : Addr} {fd : FuncData} (F : Fun M.K "_law_tag" "_law_tag" s__law_tag f fd) (hm : M.mg "_law_tag" = some (.ref f)) (hb : Binds M.K fd ["place", "long"] []) : Fok M 1 "_law_tag" (phi__law_tag) := by
  refine fok_mk (N := n__law_tag) F hm hb sc__law_tag (fun ds o h => by obtain ⟨p, n, rfl, _⟩ := h; rfl) fun X W ds o c h => ?_
  obtain ⟨p, n, rfl, h1, rfl⟩ := h
  show DB M X W _ [.v (.int p), .v (.int n), .no, .no] _ _
  refine db_cons (ds_set c.toCv G2 (de_strS [] rfl) T2 ?_)
  refine db_cons (ds_for c (pat_nm c.toCv G3) (di_range1 c.toCv g.range (dv c.toCv G1 G1) (by walk_at "rg")) (fun i ρ => ρ = [.v (.int (plF p i)), .v (.int n), .v (S (bitsF p i)), .no]) rfl (fun i d ρ' hd hi => ?_) (fun ρ' hi => ?_))
  · skip
    subst hi
    obtain ⟨hi, rfl⟩ := rangeD_get hd
    have bl := bits_len p i
    have b2 := Int.emod_two_eq (plF p i)
    refine ⟨_, .nm T3, ?_⟩
    refine db_cons (ds_set c.toCv G2 (de_bin (de_callTy c.toCv g.str boot_str (da_cons (de_bin (dv c.toCv G0 G0) de_int (by walk_at "o_mod")) da_nil) (by walk_at "c_str")) (dv c.toCv G2 G2) (by walk_at "o_add")) T2 ?_)
    refine db_cons (ds_set c.toCv G0 (de_bin (dv c.toCv G0 G0) de_int (by walk_at "o_fdiv")) T0 ?_)
    exact db_nil ⟨_, le_same (le_same (le_same (le_drop le_nil))), rfl⟩
  rw [rangeD_len] at hi
  subst hi
  exact db_cons (ds_ret (dv c.toCv G2 G2) rfl)
abbrev s__law_two : Stmt := topS 19
abbrev n__law_two : List Str := ["long", "whole", "k"]
theorem sc__law_two : FnScope n__law_two ["long"] (defScope s__law_two) := ⟨rfl, rfl, rfl, by decide +kernel, rfl, by decide +kernel, by decide +kernel⟩
def phi__law_two : List PyData → Out → Prop := fun ds o => ∃ (n : Int), ds = [.int n] ∧ (0 ≤ n ∧ n ≤ 40) ∧ o = .ret (.int (2 ^ n.toNat))
theorem i__law_two {n : Int} (h1 : 0 ≤ n ∧ n ≤ 40) : phi__law_two [.int n] (.ret (.int (2 ^ n.toNat))) := ⟨_, rfl, h1, rfl⟩
local macro_rules | `(tactic| walk_at "f__law_two") => `(tactic| exact i__law_two (by walk_at "sd"))
theorem ok__law_two (g : Bl M.mg) {f : Addr} {fd : FuncData} (F : Fun M.K "_law_two" "_law_two" s__law_two f fd) (hm : M.mg "_law_two" = some (.ref f)) (hb : Binds M.K fd ["long"] []) : Fok M 1 "_law_two" (phi__law_two) := by
  refine fok_mk (N := n__law_two) F hm hb sc__law_two (fun ds o h => by obtain ⟨n, rfl, _⟩ := h; rfl) fun X W ds o c h => ?_
  obtain ⟨n, rfl, h1, rfl⟩ := h
  show DB M X W _ [.v (.int n), .no, .no] _ _
  refine db_cons (ds_set c.toCv G1 de_int T1 ?_)
  refine db_cons (ds_for c (pat_nm c.toCv G2) (di_range1 c.toCv g.range (dv c.toCv G0 G0) (by walk_at "rg")) (fun i ρ => ρ = [.v (.int n), .v (.int (2 ^ i)), .no]) (by rw [Int.pow_zero]) (fun i d ρ' hd hi => ?_) (fun ρ' hi => ?_))
  · skip
    subst hi
    obtain ⟨hi, rfl⟩ := rangeD_get hd
    refine ⟨_, .nm T2, ?_⟩
    refine db_cons (ds_set c.toCv G1 (de_bin (dv c.toCv G1 G1) de_int (by walk_at "o_mul")) T1 ?_)
    exact db_nil ⟨_, le_same (le_eq (by rw [Int.pow_succ]) (le_drop le_nil)), rfl⟩
  rw [rangeD_len] at hi
  subst hi
  exact db_cons (ds_ret (dv c.toCv G1 G1) rfl)
abbrev s__law_long : Stmt := topS 20
abbrev n__law_long : List Str := ["cell"]
theorem sc__law_long : FnScope n__law_long ["cell"] (defScope s__law_long) := ⟨rfl, rfl, rfl, by decide +kernel, rfl, by decide +kernel, by decide +kernel⟩
def phi__law_long : List PyData → Out → Prop := fun ds o => ∃ (u : Int), ds = [.int u] ∧ o = .ret (.int (longF u))
theorem i__law_long {u : Int}  : phi__law_long [.int u] (.ret (.int (longF u))) := ⟨_, rfl, rfl⟩
local macro_rules | `(tactic| walk_at "f__law_long") => `(tactic| exact i__law_long )
theorem ok__law_long (g : Bl M.mg) (G_law_mix : Fok M 1 "_law_mix" phi__law_mix) {f : Addr} {fd : FuncData} (F : Fun M.K "_law_long" "_law_long" s__law_long f fd) (hm : M.mg "_law_long" = some (.ref f)) (hb : Binds M.K fd ["cell"] []) : Fok M 2 "_law_long" (phi__law_long) := by
  refine fok_mk (N := n__law_long) F hm hb sc__law_long (fun ds o h => by obtain ⟨u, rfl, _⟩ := h; rfl) fun X W ds o c h => ?_
  obtain ⟨u, rfl, rfl⟩ := h
  show DB M X W _ [.v (.int u)] _ _
  exact db_cons (ds_ret (de_iteI (dt_cmp (de_call c G_law_mix (by decide) (da_cons (dv c.toCv G0 G0) (da_cons de_int (da_cons de_int da_nil))) (by walk_at "f__law_mix")) de_int (by walk_at "o_eq") (nomark _)) (fun hb => (de_bin de_int (de_call c G_law_mix (by decide) (da_cons (dv c.toCv G0 G0) (da_cons de_int (da_cons de_int da_nil))) (by walk_at "f__law_mix")) (by walk_at "o_add"))) (fun hb => (de_bin de_int (de_call c G_law_mix (by decide) (da_cons (dv c.toCv G0 G0) (da_cons de_int (da_cons de_int da_nil))) (by walk_at "f__law_mix")) (by walk_at "o_add")))) rfl)
abbrev s__law_lot : Stmt := topS 21
abbrev n__law_lot : List Str := ["cell", "long", "most", "whole", "is_near", "base", "rows", "k", "seed", "place"]
theorem sc__law_lot : FnScope n__law_lot ["cell", "long", "most"] (defScope s__law_lot) := ⟨rfl, rfl, rfl, by decide +kernel, rfl, by decide +kernel, by decide +kernel⟩
def phi__law_lot : List PyData → Out → Prop := fun ds o => ∃ (u n m : Int), ds = [.int u, .int n, .int m] ∧ (0 ≤ n ∧ n ≤ 40) ∧ (0 ≤ m ∧ m ≤ 40) ∧ o = .ret (.tuple ((lotF u n m).map S))
theorem i__law_lot {u n m : Int} (h1 : 0 ≤ n ∧ n ≤ 40) (h2 : 0 ≤ m ∧ m ≤ 40) : phi__law_lot [.int u, .int n, .int m] (.ret (.tuple ((lotF u n m).map S))) := ⟨_, _, _, rfl, h1, h2, rfl⟩
local macro_rules | `(tactic| walk_at "f__law_lot") => `(tactic| exact i__law_lot (by walk_at "sd") (by walk_at "sd"))
theorem ok__law_lot (g : Bl M.mg) (G_law_two : Fok M 1 "_law_two" phi__law_two) (G_law_mix : Fok M 1 "_law_mix" phi__law_mix) (G_law_tag : Fok M 1 "_law_tag" phi__law_tag) {f : Addr} {fd : FuncData} (F : Fun M.K "_law_lot" "_law_lot" s__law_lot f fd) (hm : M.mg "_law_lot" = some (.ref f)) (hb : Binds M.K fd ["cell", "long", "most"] []) : Fok M 2 "_law_lot" (phi__law_lot) := by
  refine fok_mk (N := n__law_lot) F hm hb sc__law_lot (fun ds o h => by obtain ⟨u, n, m, rfl, _⟩ := h; rfl) fun X W ds o c h => ?_
  obtain ⟨u, n, m, rfl, h1, h2, rfl⟩ := h
  show DB M X W _ [.v (.int u), .v (.int n), .v (.int m), .no, .no, .no, .no, .no, .no, .no] _ _
  have w1 : (0 : Int) < 2 ^ n.toNat := Int.pow_pos (by decide)
  have w2 := mix_in (c := u) (p := 9929) (m := m + 1) (by omega)
  refine db_cons (ds_par2 c G3 G4 (da_cons (de_call c G_law_two (by decide) (da_cons (dv c.toCv G1 G1) da_nil) (by walk_at "f__law_two")) (da_cons (de_cmp (de_call c G_law_mix (by decide) (da_cons (dv c.toCv G0 G0) (da_cons de_int (da_cons de_int da_nil))) (by walk_at "f__law_mix")) de_int (by walk_at "o_eq") (nomark _)) da_nil)) T3 T4 ?_)
  refine db_cons (ds_set c.toCv G5 (de_call c G_law_mix (by decide) (da_cons (dv c.toCv G0 G0) (da_cons de_int (da_cons (dv c.toCv G3 G3) da_nil))) (by walk_at "f__law_mix")) T5 ?_)
  refine db_cons (ds_dnew c.toCv G6 T6 ?_)
  refine db_cons (ds_for c (pat_nm c.toCv G7) (di_range1 c.toCv g.range (de_call c G_law_mix (by decide) (da_cons (dv c.toCv G0 G0) (da_cons de_int (da_cons (de_bin (dv c.toCv G2 G2) de_int (by walk_at "o_add")) da_nil))) (by walk_at "f__law_mix")) (by walk_at "rg")) (fun i ρ => ρ = [.v (.int u), .v (.int n), .v (.int m), .v (.int (2 ^ n.toNat)), .v (.bool (decide (mixF u 9941 3 = 0))), .v (.int (mixF u 9931 (2 ^ n.toNat))), .od (kvT (rowsF u n i)), .no, .no, .no]) rfl (fun i d ρ' hd hi => ?_) (fun ρ' hi => ?_))
  · skip
    subst hi
    obtain ⟨hi, rfl⟩ := rangeD_get hd
    have rl := (rows_ok u n i).2.1
    refine ⟨_, .nm T7, ?_⟩
    refine db_cons (ds_set c.toCv G8 (de_bin (dv c.toCv G0 G0) (de_bin de_int (dv c.toCv G7 G7) (by walk_at "o_mul")) (by walk_at "o_add")) T8 ?_)
    refine db_cons (ds_set c.toCv G9 (de_iteI (dt_tru c.toCv (dv c.toCv G4 G4) (by walk_at "tr")) (fun hb => (de_bin (de_bin (de_bin (de_bin (dv c.toCv G5 G5) de_int (by walk_at "o_fdiv")) de_int (by walk_at "o_mul")) (de_call c G_law_mix (by decide) (da_cons (dv c.toCv G8 G8) (da_cons de_int (da_cons de_int da_nil))) (by walk_at "f__law_mix")) (by walk_at "o_add")) (dv c.toCv G3 G3) (by walk_at "o_mod"))) (fun hb => (de_call c G_law_mix (by decide) (da_cons (dv c.toCv G8 G8) (da_cons de_int (da_cons (dv c.toCv G3 G3) da_nil))) (by walk_at "f__law_mix")))) T9 ?_)
    refine db_cons (ds_dput c.toCv G6 G6 (q := Sum.inr ⟨(bitsF (placeF u n i) n.toNat).toArray⟩) (de_call c G_law_tag (by decide) (da_cons (dv c.toCv G9 G9) (da_cons (dv c.toCv G1 G1) da_nil)) (by walk_at "f__law_tag")) de_bl T6 (by show (kvT (rowsF u n i)).length < _; unfold kvT; rw [List.length_map]; omega) ?_)
    exact db_nil ⟨_, le_same (le_same (le_same (le_same (le_same (le_same (le_eq (by rw [put_addT]; rfl) (le_drop (le_drop (le_drop le_nil))))))))), rfl⟩
  rw [rangeD_len] at hi
  subst hi
  have rl := (rows_ok u n (mixF u 9929 (m + 1)).toNat).2.1
  exact db_cons (ds_ret (de_callTy c.toCv g.tuple boot_tuple (da_cons (de_sortedD c g.sorted G6 (ts := rowsF u n (mixF u 9929 (m + 1)).toNat) (f := id) (g := fun _ => .bool true) G6 (by omega)) da_nil) (cl_tuple_lst c.toCv)) (by rw [List.map_id]; rfl))
/-! ### what is heard -/
def amF (b : Tag) (ls : List Tag) : List Tag := ls.filter fun t => decide (t.take b.length = b)
theorem am_cut (b : Tag) (ls : List Tag) : (ls.filter fun a => decide (cut a none (some (b.length : Int)) = b)) = amF b ls := by
  unfold amF
  refine List.filter_congr fun t _ => ?_
  rw [cut_to t (by omega : (0 : Int) ≤ (b.length : Int)), Int.toNat_natCast]
theorem am_mem {b t : Tag} {ls : List Tag} (h : t ∈ amF b ls) : t ∈ ls ∧ t.take b.length = b := by
  obtain ⟨h1, h2⟩ := List.mem_filter.mp h
  exact ⟨h1, of_decide_eq_true h2⟩
theorem am_len (b : Tag) (ls : List Tag) : (amF b ls).length ≤ ls.length := List.length_filter_le _ _
def blurF (q : Nat) (r : List Nat) : Nat := if r.all (fun y => decide (y = q)) = true then q else 120
def soundF (b t : Tag) (r : List Tag) (i : Nat) : Nat := blurF (t.getD (b.length + i) 0) (r.map fun u => u.getD (b.length + i) 0)
def heardF (ls : List Tag) (b : Tag) : PyData := match amF b ls with
  | [] => .none
  | t :: r => S ((List.range (t.length - b.length)).map (soundF b t r))
theorem heard_nil {ls : List Tag} {b : Tag} (h : amF b ls = []) : heardF ls b = .none := by unfold heardF; rw [h]
theorem heard_cons {ls : List Tag} {b t : Tag} {r : List Tag} (h : amF b ls = t :: r) : heardF ls b = S ((List.range (t.length - b.length)).map (soundF b t r)) := by unfold heardF; rw [h]
theorem flat1 {α : Type} (f : α → Nat) (l : List α) : (l.map fun i => [f i]).flatten = l.map f := by
  induction l with
  | nil => rfl
  | cons x r ih => rw [List.map_cons, List.flatten_cons, ih]; rfl
theorem len1 {α : Type} (f : α → Nat) (l : List α) : ((l.map fun i => [f i]).map List.length).sum = l.length := by
  induction l with
  | nil => rfl
  | cons x r ih => rw [List.map_cons, List.map_cons, List.sum_cons, ih, List.length_cons]; simp; omega
theorem join1 {α : Type} (f : α → Nat) (l : List α) : TL.joinL [] (l.map fun i => [f i]) = l.map f := by rw [joinL_nil, flat1]
theorem jz1 {α : Type} (f : α → Nat) (l : List α) (h : l.length ≤ 1000) : ((l.map fun i => [f i]).map List.length).sum + (l.map fun i => [f i]).length * ([] : List Nat).length ≤ 16777216 := by
  rw [len1]
  simp
  omega
theorem at_S {t : Tag} {i : Int} (h0 : 0 ≤ i) (h : i < t.length) : atI t i = some (t.getD i.toNat 0) := by
  have hl : i.toNat < t.length := by omega
  refine atD_of (j := i.toNat) (by omega) ?_
  rw [List.getD_eq_getElem?_getD, List.getElem?_eq_getElem hl]
  rfl
def Asc (t : Tag) : Prop := ∀ q ∈ t, q < 128
theorem tag_asc {n : Nat} {t : Tag} (h : IsTag n t) : Asc t := fun q hq => by rcases h.2 q hq with e | e <;> omega
theorem asc_ok {t : Tag} (h : Asc t) : PyData.canLay0 (S t) = true := by
  show PyData.strOk ⟨t.toArray⟩ = true
  show t.toArray.all (fun q => decide (q < 0x110000)) = true
  rw [List.all_toArray]
  exact List.all_eq_true.mpr fun q hq => decide_eq_true (by have := h q hq; omega)
theorem sh_strs : ∀ l : List Tag, (∀ t ∈ l, Asc t) → PyData.canLayAll0 (l.map S) = true ∧ PyData.depthAll (l.map S) = 0
  | [], _ => ⟨rfl, rfl⟩
  | t :: r, h => by
    obtain ⟨h1, h2⟩ := sh_strs r fun u hu => h u (List.mem_cons_of_mem _ hu)
    refine ⟨?_, ?_⟩
    · show (PyData.canLay0 (S t) && PyData.canLayAll0 (r.map S)) = true
      rw [h1, asc_ok (h t List.mem_cons_self)]
      rfl
    · show max (PyData.depth (S t)) (PyData.depthAll (r.map S)) = 0
      rw [h2]
      rfl
theorem shaped_lst {l : List Tag} (h : ∀ t ∈ l, Asc t) : SeqAt.shaped (.list (l.map S)) = true := by
  obtain ⟨h1, h2⟩ := sh_strs l h
  show (PyData.canLayAll0 (l.map S) && decide (PyData.depthAll (l.map S) + 1 ≤ 64)) = true
  rw [h1, h2]
  rfl
theorem shaped_tup {l : List Tag} (h : ∀ t ∈ l, Asc t) : SeqAt.shaped (.tuple (l.map S)) = true := by
  obtain ⟨h1, h2⟩ := sh_strs l h
  show (PyData.canLayAll0 (l.map S) && decide (PyData.depthAll (l.map S) + 1 ≤ 64)) = true
  rw [h1, h2]
  rfl
local macro_rules | `(tactic| walk_at "sh") => `(tactic| first | rfl | exact shaped_lst (by assumption) | exact shaped_tup (by assumption))
def numF (t : Tag) : Int := t.foldl (fun (a : Int) (q : Nat) => 2 * a + ((q : Int) - 48)) 0
theorem pl_pow (p : Int) : ∀ i, plF p i = p / 2 ^ i
  | 0 => by show p = p / 2 ^ 0; rw [Int.pow_zero, Int.ediv_one]
  | i + 1 => by
    show plF p i / 2 = _
    rw [pl_pow p i, Int.pow_succ, Int.ediv_ediv_of_nonneg (Int.le_of_lt (Int.pow_pos (by decide)))]
theorem bits_down (p : Int) : ∀ n : Nat, ((List.range n).map fun i => 48 + (p / 2 ^ (n - 1 - i) % 2).toNat) = bitsF p n
  | 0 => rfl
  | n + 1 => by
    rw [List.range_succ_eq_map, List.map_cons, List.map_map]
    show _ = (48 + (plF p n % 2).toNat) :: bitsF p n
    rw [← bits_down p n, pl_pow]
    congr 1
    refine List.map_congr_left fun i hi => ?_
    show 48 + (p / 2 ^ (n + 1 - 1 - (i + 1)) % 2).toNat = _
    rw [show n + 1 - 1 - (i + 1) = n - 1 - i by omega]
/-- the count of ones tells the same as blurring -/
theorem ones_blur {b t : Tag} {r : List Tag} {i n : Nat} (ht : ∀ u ∈ t :: r, IsTag n u) (hi : b.length + i < n) :
    (if ((((t :: r).filter fun u => decide ([u.getD (b.length + i) 0] = [49])).length : Nat) : Int) = 0 then 48 else if ((((t :: r).filter fun u => decide ([u.getD (b.length + i) 0] = [49])).length : Nat) : Int) = (((t :: r).length : Nat) : Int) then 49 else 120) = soundF b t r i := by
  have sg : ∀ u ∈ t :: r, u.getD (b.length + i) 0 = 48 ∨ u.getD (b.length + i) 0 = 49 := fun u hu => by
    obtain ⟨h1, h2⟩ := ht u hu
    have hl : b.length + i < u.length := by omega
    rw [List.getD_eq_getElem?_getD, List.getElem?_eq_getElem hl]
    exact h2 _ (List.getElem_mem hl)
  unfold soundF blurF
  generalize b.length + i = k at sg ⊢
  have e0 : (((t :: r).filter fun u => decide ([u.getD k 0] = [49])).length = 0) ↔ ∀ u ∈ t :: r, u.getD k 0 = 48 := by
    rw [List.length_eq_zero_iff, List.filter_eq_nil_iff]
    refine ⟨fun h u hu => (sg u hu).resolve_right fun z => h u hu (by rw [z]; rfl), fun h u hu z => ?_⟩
    have z := of_decide_eq_true z
    rw [h u hu] at z
    cases z
  have e1 : (((t :: r).filter fun u => decide ([u.getD k 0] = [49])).length = (t :: r).length) ↔ ∀ u ∈ t :: r, u.getD k 0 = 49 := by
    rw [List.length_filter_eq_length_iff]
    refine ⟨fun h u hu => ?_, fun h u hu => by rw [h u hu]; rfl⟩
    have z := of_decide_eq_true (h u hu)
    injection z
  by_cases c0 : ∀ u ∈ t :: r, u.getD k 0 = 48
  · have q0 := e0.mpr c0
    rw [if_pos (by omega), if_pos]
    · exact (c0 t List.mem_cons_self).symm
    · rw [List.all_map]
      refine List.all_eq_true.mpr fun u hu => decide_eq_true ?_
      show u.getD k 0 = _
      rw [c0 u (List.mem_cons_of_mem _ hu), c0 t List.mem_cons_self]
  · rw [if_neg fun z => c0 (e0.mp (by omega))]
    by_cases c1 : ∀ u ∈ t :: r, u.getD k 0 = 49
    · have q1 := e1.mpr c1
      rw [if_pos (by omega), if_pos]
      · exact (c1 t List.mem_cons_self).symm
      · rw [List.all_map]
        refine List.all_eq_true.mpr fun u hu => decide_eq_true ?_
        show u.getD k 0 = _
        rw [c1 u (List.mem_cons_of_mem _ hu), c1 t List.mem_cons_self]
    · rw [if_neg fun z => c1 (e1.mp (by omega)), if_neg]
      intro z
      rw [List.all_map] at z
      have z := List.all_eq_true.mp z
      rcases sg t List.mem_cons_self with q | q
      · refine c0 fun u hu => ?_
        rcases List.mem_cons.mp hu with e | e
        · rw [e]; exact q
        · exact (of_decide_eq_true (z u e)).trans q
      · refine c1 fun u hu => ?_
        rcases List.mem_cons.mp hu with e | e
        · rw [e]; exact q
        · exact (of_decide_eq_true (z u e)).trans q
theorem pow_le2 {a b : Nat} (h : a ≤ b) : (2 : Int) ^ a ≤ 2 ^ b := by
  have := Nat.pow_le_pow_right (by decide : 0 < 2) h
  have e : ∀ k : Nat, ((2 ^ k : Nat) : Int) = (2 : Int) ^ k := fun k => by rw [Int.natCast_pow]; rfl
  rw [← e, ← e]
  exact_mod_cast this

abbrev s_among : Stmt := topS 9
abbrev n_among : List Str := ["lot", "beginning", "tag"]
theorem sc_among : FnScope n_among ["lot", "beginning"] (defScope s_among) := ⟨rfl, rfl, rfl, by decide +kernel, rfl, by decide +kernel, by decide +kernel⟩
def phi_among : List PyData → Out → Prop := fun ds o => ∃ (ls : List Tag) (b : Tag), ds = [.tuple (ls.map S), S b] ∧ (∀ t ∈ ls, t.length ≤ 1000) ∧ (b.length ≤ 1000) ∧ (ls.length ≤ 1000) ∧ o = .ret (.tuple ((amF b ls).map S))
theorem i_among {ls : List Tag} {b : Tag} (h1 : ∀ t ∈ ls, t.length ≤ 1000) (h2 : b.length ≤ 1000) (h3 : ls.length ≤ 1000) : phi_among [.tuple (ls.map S), S b] (.ret (.tuple ((amF b ls).map S))) := ⟨_, _, rfl, h1, h2, h3, rfl⟩
local macro_rules | `(tactic| walk_at "f_among") => `(tactic| exact i_among (by walk_at "lens") (by walk_at "sz") (by walk_at "sz"))
theorem ok_among (g : Bl M.mg) {f : Addr} {fd : FuncData} (F : Fun M.K "among" "among" s_among f fd) (hm : M.mg "among" = some (.ref f)) (hb : Binds M.K fd ["lot", "beginning"] []) : Fok M 1 "among" (phi_among) := by
  refine fok_mk (N := n_among) F hm hb sc_among (fun ds o h => by obtain ⟨ls, b, rfl, _⟩ := h; rfl) fun X W ds o c h => ?_
  obtain ⟨ls, b, rfl, h1, h2, h3, rfl⟩ := h
  show DB M X W _ [.v (.tuple (ls.map S)), .v (S b), .no] _ _
  exact db_cons (ds_ret (de_callTy c.toCv g.tuple boot_tuple (da_cons (DL.de (dl_lcT (own := [("tag", 2)]) (enc := S) (f := S) (t := fun a => decide (cut a none (some (b.length : Int)) = b)) c (by decide +kernel) (di_tup c.toCv (dv c.toCv G0 G0)) (fun X1 c1 => (pat_nm c1.toCv G2)) (by decide) (.cons .nil (.s (.s .zn))) (fun a1 ha1 => by have h1a := h1 a1 ha1; exact ⟨_, .nm T2, fun X1 c1 => ⟨(dts_one (dt_cmp (de_sl (dv c1.toCv G2 G2) do_none (do_some (de_callB c1.toCv g.len boot_len (da_cons (dv c1.toCv G1 G1) da_nil) (by walk_at "c_len"))) (by walk_at "sl")) (dv c1.toCv G1 G1) (by walk_at "o_eq") (nomark _))), fun ht1 => (dv c1.toCv G2 G2)⟩⟩) (by walk_at "sz"))) da_nil) (by walk_at "c_tuple")) (by rw [am_cut]))
abbrev s__law_among : Stmt := topS 22
abbrev n__law_among : List Str := ["lot", "ahead", "tag"]
theorem sc__law_among : FnScope n__law_among ["lot", "ahead"] (defScope s__law_among) := ⟨rfl, rfl, rfl, by decide +kernel, rfl, by decide +kernel, by decide +kernel⟩
def phi__law_among : List PyData → Out → Prop := fun ds o => ∃ (ls : List Tag) (b : Tag), ds = [.tuple (ls.map S), S b] ∧ (ls.length ≤ 1000) ∧ o = .ret (.list ((amF b ls).map S))
theorem i__law_among {ls : List Tag} {b : Tag} (h1 : ls.length ≤ 1000) : phi__law_among [.tuple (ls.map S), S b] (.ret (.list ((amF b ls).map S))) := ⟨_, _, rfl, h1, rfl⟩
local macro_rules | `(tactic| walk_at "f__law_among") => `(tactic| exact i__law_among (by walk_at "sz"))
theorem ok__law_among (g : Bl M.mg) {f : Addr} {fd : FuncData} (F : Fun M.K "_law_among" "_law_among" s__law_among f fd) (hm : M.mg "_law_among" = some (.ref f)) (hb : Binds M.K fd ["lot", "ahead"] []) : Fok M 1 "_law_among" (phi__law_among) := by
  refine fok_mk (N := n__law_among) F hm hb sc__law_among (fun ds o h => by obtain ⟨ls, b, rfl, _⟩ := h; rfl) fun X W ds o c h => ?_
  obtain ⟨ls, b, rfl, h1, rfl⟩ := h
  show DB M X W _ [.v (.tuple (ls.map S)), .v (S b), .no] _ _
  exact db_cons (ds_ret (DL.de (dl_lcT (own := [("tag", 2)]) (enc := S) (f := S) (t := fun a => decide (a.take b.length = b)) c (by decide +kernel) (di_tup c.toCv (dv c.toCv G0 G0)) (fun X1 c1 => (pat_nm c1.toCv G2)) (by decide) (.cons .nil (.s (.s .zn))) (fun a1 ha1 => ⟨_, .nm T2, fun X1 c1 => ⟨(dts_one (dt_tru c1.toCv (de_starts (dv c1.toCv G2 G2) (dv c1.toCv G1 G1)) (by walk_at "tr"))), fun ht1 => (dv c1.toCv G2 G2)⟩⟩) (by walk_at "sz"))) rfl)
theorem blur_eq (q : Nat) (r : List Nat) : (bestS ltB [q] (r.map fun s => [s]) = bestS gtB [q] (r.map fun s => [s])) ↔ r.all (fun y => decide (y = q)) = true := by
  rw [best_same, List.all_eq_true]
  constructor
  · intro h y hy
    have := h [y] (List.mem_map.mpr ⟨y, hy, rfl⟩)
    injection this with this
    exact decide_eq_true this
  · intro h y hy
    obtain ⟨z, hz, rfl⟩ := List.mem_map.mp hy
    rw [of_decide_eq_true (h z hz)]
theorem signs_eq (l : List Nat) : (l.map fun s => S [s]) = (l.map fun s => [s]).map S := by rw [List.map_map]; rfl
abbrev s_blurred : Stmt := topS 10
abbrev n_blurred : List Str := ["signs"]
theorem sc_blurred : FnScope n_blurred ["signs"] (defScope s_blurred) := ⟨rfl, rfl, rfl, by decide +kernel, rfl, by decide +kernel, by decide +kernel⟩
def phi_blurred : List PyData → Out → Prop := fun ds o => ∃ (q : Nat) (r : List Nat), ds = [.list ((q :: r).map fun s => S [s])] ∧ o = .ret (S [blurF q r])
theorem i_blurred {q : Nat} {r : List Nat}  : phi_blurred [.list ((q :: r).map fun s => S [s])] (.ret (S [blurF q r])) := ⟨_, _, rfl, rfl⟩
local macro_rules | `(tactic| walk_at "f_blurred") => `(tactic| exact i_blurred )
theorem ok_blurred (g : Bl M.mg) {f : Addr} {fd : FuncData} (F : Fun M.K "blurred" "blurred" s_blurred f fd) (hm : M.mg "blurred" = some (.ref f)) (hb : Binds M.K fd ["signs"] []) : Fok M 1 "blurred" (phi_blurred) := by
  refine fok_mk (N := n_blurred) F hm hb sc_blurred (fun ds o h => by obtain ⟨q, r, rfl, _⟩ := h; rfl) fun X W ds o c h => ?_
  obtain ⟨q, r, rfl, rfl⟩ := h
  show DB M X W _ [.v (.list ((q :: r).map fun s => S [s]))] _ _
  rw [signs_eq]
  refine db_cons (ds_if (dt_cmp (de_callB c.toCv g.min boot_min (da_cons (dv c.toCv G0 G0) da_nil) (by walk_at "c_min")) (de_callB c.toCv g.max boot_max (da_cons (dv c.toCv G0 G0) da_nil) (by walk_at "c_max")) (by walk_at "o_eq") (nomark _)) (fun hb => ?_) (fun hb => db_end ?_))
  · skip
    have hb := (blur_eq q r).mp (of_decide_eq_true hb)
    exact db_cons (ds_ret (de_ix (dv c.toCv G0 G0) de_int (by walk_at "ix")) (by unfold blurF; rw [if_pos hb]))
  have hb : ¬ r.all (fun y => decide (y = q)) = true := fun z => by rw [decide_eq_true ((blur_eq q r).mpr z)] at hb; cases hb
  exact db_cons (ds_ret (de_strS [120] rfl) (by unfold blurF; rw [if_neg hb]))
abbrev s_heard : Stmt := topS 11
abbrev n_heard : List Str := ["lot", "beginning", "some", "k", "tag"]
theorem sc_heard : FnScope n_heard ["lot", "beginning"] (defScope s_heard) := ⟨rfl, rfl, rfl, by decide +kernel, rfl, by decide +kernel, by decide +kernel⟩
def phi_heard : List PyData → Out → Prop := fun ds o => ∃ (ls : List Tag) (b : Tag) (n : Nat), ds = [.tuple (ls.map S), S b] ∧ (∀ t ∈ ls, t.length = n) ∧ (n ≤ 1000) ∧ (b.length ≤ 1000) ∧ (ls.length ≤ 1000) ∧ o = .ret (heardF ls b)
theorem i_heard {ls : List Tag} {b : Tag} {n : Nat} (h1 : ∀ t ∈ ls, t.length = n) (h2 : n ≤ 1000) (h3 : b.length ≤ 1000) (h4 : ls.length ≤ 1000) : phi_heard [.tuple (ls.map S), S b] (.ret (heardF ls b)) := ⟨_, _, _, rfl, h1, h2, h3, h4, rfl⟩
local macro_rules | `(tactic| walk_at "f_heard") => `(tactic| exact i_heard (by walk_at "lenn") (by walk_at "sd") (by walk_at "sz") (by walk_at "sz"))
theorem ok_heard (g : Bl M.mg) (Gamong : Fok M 1 "among" phi_among) (Gblurred : Fok M 1 "blurred" phi_blurred) {f : Addr} {fd : FuncData} (F : Fun M.K "heard" "heard" s_heard f fd) (hm : M.mg "heard" = some (.ref f)) (hb : Binds M.K fd ["lot", "beginning"] []) : Fok M 2 "heard" (phi_heard) := by
  refine fok_mk (N := n_heard) F hm hb sc_heard (fun ds o h => by obtain ⟨ls, b, n, rfl, _⟩ := h; rfl) fun X W ds o c h => ?_
  obtain ⟨ls, b, n, rfl, h1, h2, h3, h4, rfl⟩ := h
  show DB M X W _ [.v (.tuple (ls.map S)), .v (S b), .no, .no, .no] _ _
  refine db_cons (ds_set c.toCv G2 (de_call c Gamong (by decide) (da_cons (dv c.toCv G0 G0) (da_cons (dv c.toCv G1 G1) da_nil)) (by walk_at "f_among")) T2 ?_)
  rcases he : amF b ls with _ | ⟨t0, r⟩
  · refine db_cons (ds_if (bb := true) (dt_not (dt_tru c.toCv (dv c.toCv G2 G2) (by trivial))) (fun hb => ?_) (fun hb => by cases hb))
    exact db_cons (ds_ret de_non (by rw [heard_nil he]))
  have hm := am_mem (b := b) (ls := ls) (t := t0) (by rw [he]; exact List.mem_cons_self)
  have hl : b.length ≤ n := by have := congrArg List.length hm.2; rw [List.length_take, h1 t0 hm.1] at this; omega
  have hlen : ∀ t ∈ t0 :: r, t.length = n := fun t ht => h1 t (am_mem (b := b) (by rw [he]; exact ht)).1
  have h0 := hlen t0 List.mem_cons_self
  have hrl := am_len b ls
  rw [he, List.length_cons] at hrl
  refine db_cons (ds_if (dt_not (dt_tru c.toCv (dv c.toCv G2 G2) (by walk_at "tr"))) (fun hb => ?_) (fun hb => db_end ?_))
  · cases hb
  exact db_cons (ds_ret (de_join (ls := (List.range (n - b.length)).map fun i => [soundF b t0 r i]) c.toCv (de_strS [] rfl) (DE.eq (DL.de (dl_lcM (own := [("k", 3)]) (xs := List.range (n - b.length)) (enc := fun i => .int ((b.length : Int) + (i : Nat))) (f := fun i => S [soundF b t0 r i]) c (by decide +kernel) (DI.eq (di_range2 c.toCv g.range (de_callB c.toCv g.len boot_len (da_cons (dv c.toCv G1 G1) da_nil) (by walk_at "c_len")) (de_callB c.toCv g.len boot_len (da_cons (de_ix (dv c.toCv G2 G2) de_int (ix_t c.toCv (atD_of (j := 0) rfl rfl))) da_nil) (cl_lenS (s := t0) (by omega))) (by refine ⟨?_, ?_, ?_, ?_⟩ <;> omega)) (by unfold rangeD; rw [h0]; congr 2; omega)) (fun X1 c1 => (pat_nm c1.toCv G3)) (by decide) (.cons .nil (.s (.s (.s .zn)))) (fun i hi => ⟨_, .nm T3, fun X1 c1 => (de_call c1 Gblurred (by decide) (da_cons (DE.eq (DL.de (dl_lcM (own := [("tag", 4)]) (xs := t0 :: r) (enc := S) (f := fun t => S [t.getD (b.length + i) 0]) c1 (by decide +kernel) (di_tup c1.toCv (dv c1.toCv G2 G2)) (fun X2 c2 => (pat_nm c2.toCv G4)) (by decide) (.cons .nil (.s (.s (.s (.s .zn))))) (fun t ht => ⟨_, .nm T4, fun X2 c2 => (de_ix (dv c2.toCv G4 G4) (dv c2.toCv G3 G3) (by
    have e1 := hlen t ht
    have e2 := List.mem_range.mp hi
    have e3 := at_S (t := t) (i := (b.length : Int) + (i : Nat)) (by omega) (by omega)
    rw [show ((b.length : Int) + (i : Nat)).toNat = b.length + i by omega] at e3
    exact ix_s (by omega) e3))⟩) (by walk_at "sz"))) (d := .list ((t0.getD (b.length + i) 0 :: r.map fun u => u.getD (b.length + i) 0).map fun s => S [s])) (by rw [List.map_cons, List.map_cons, List.map_map]; rfl)) da_nil) i_blurred)⟩) (by walk_at "sz"))) (by rw [List.map_map]; rfl)) (jz1 _ _ (by rw [List.length_range]; omega))) (by rw [join1, heard_cons he, h0]))
abbrev s_number : Stmt := topS 12
abbrev n_number : List Str := ["tag", "found", "sign"]
theorem sc_number : FnScope n_number ["tag"] (defScope s_number) := ⟨rfl, rfl, rfl, by decide +kernel, rfl, by decide +kernel, by decide +kernel⟩
def phi_number : List PyData → Out → Prop := fun ds o => ∃ (t : Tag), ds = [S t] ∧ (∀ q ∈ t, q = 48 ∨ q = 49) ∧ o = .ret (.int (numF t))
theorem i_number {t : Tag} (h1 : ∀ q ∈ t, q = 48 ∨ q = 49) : phi_number [S t] (.ret (.int (numF t))) := ⟨_, rfl, h1, rfl⟩
local macro_rules | `(tactic| walk_at "f_number") => `(tactic| exact i_number (by walk_at "sd"))
theorem ok_number (g : Bl M.mg) {f : Addr} {fd : FuncData} (F : Fun M.K "number" "number" s_number f fd) (hm : M.mg "number" = some (.ref f)) (hb : Binds M.K fd ["tag"] []) : Fok M 1 "number" (phi_number) := by
  refine fok_mk (N := n_number) F hm hb sc_number (fun ds o h => by obtain ⟨t, rfl, _⟩ := h; rfl) fun X W ds o c h => ?_
  obtain ⟨t, rfl, h1, rfl⟩ := h
  show DB M X W _ [.v (S t), .no, .no] _ _
  refine db_cons (ds_set c.toCv G1 de_int T1 ?_)
  refine db_cons (ds_for c (pat_nm c.toCv G2) ((fun _ => di_str) c.toCv (dv c.toCv G0 G0)) (fun i ρ => ρ = [.v (S t), .v (.int (numF (t.take i))), .no]) rfl (fun i d ρ' hd hi => ?_) (fun ρ' hi => ?_))
  · skip
    subst hi
    rw [List.getElem?_map] at hd
    rcases hq : t[i]? with _ | q
    · rw [hq] at hd; cases hd
    rw [hq] at hd
    cases hd
    have hs := h1 q (List.mem_of_getElem? hq)
    refine ⟨_, .nm T2, ?_⟩
    refine db_cons (ds_set c.toCv G1 (de_bin (de_bin de_int (dv c.toCv G1 G1) (by walk_at "o_mul")) (de_callTy c.toCv g.int boot_int (da_cons (dv c.toCv G2 G2) da_nil) (by walk_at "c_int")) (by walk_at "o_add")) T1 ?_)
    exact db_nil ⟨_, le_same (le_eq (by rw [List.take_add_one, hq]; unfold numF; rw [List.foldl_append]; rfl) (le_drop le_nil)), rfl⟩
  rw [List.length_map] at hi
  subst hi
  exact db_cons (ds_ret (dv c.toCv G1 G1) (by rw [List.take_of_length_le (Nat.le_refl _)]))
abbrev s_power : Stmt := topS 8
abbrev n_power : List Str := ["base", "many", "found", "turn"]
theorem sc_power : FnScope n_power ["base", "many"] (defScope s_power) := ⟨rfl, rfl, rfl, by decide +kernel, rfl, by decide +kernel, by decide +kernel⟩
def phi_power : List PyData → Out → Prop := fun ds o => ∃ (b n : Int), ds = [.int b, .int n] ∧ (-(2 ^ 64) < b ∧ b < 2 ^ 64) ∧ (-100000 ≤ n ∧ n ≤ 100000) ∧ o = .ret (.int (b ^ n.toNat))
theorem i_power {b n : Int} (h1 : -(2 ^ 64) < b ∧ b < 2 ^ 64) (h2 : -100000 ≤ n ∧ n ≤ 100000) : phi_power [.int b, .int n] (.ret (.int (b ^ n.toNat))) := ⟨_, _, rfl, h1, h2, rfl⟩
local macro_rules | `(tactic| walk_at "f_power") => `(tactic| exact i_power (by walk_at "sd") (by walk_at "sd"))
theorem ok_power (g : Bl M.mg) {f : Addr} {fd : FuncData} (F : Fun M.K "power" "power" s_power f fd) (hm : M.mg "power" = some (.ref f)) (hb : Binds M.K fd ["base", "many"] []) : Fok M 1 "power" (phi_power) := by
  refine fok_mk (N := n_power) F hm hb sc_power (fun ds o h => by obtain ⟨b, n, rfl, _⟩ := h; rfl) fun X W ds o c h => ?_
  obtain ⟨b, n, rfl, h1, h2, rfl⟩ := h
  show DB M X W _ [.v (.int b), .v (.int n), .no, .no] _ _
  refine db_cons (ds_set c.toCv G2 de_int T2 ?_)
  refine db_cons (ds_for c (pat_nm c.toCv G3) (di_range1 c.toCv g.range (dv c.toCv G1 G1) (by walk_at "rg")) (fun i ρ => ρ = [.v (.int b), .v (.int n), .v (.int (b ^ i)), .no]) (by rw [Int.pow_zero]) (fun i d ρ' hd hi => ?_) (fun ρ' hi => ?_))
  · skip
    subst hi
    obtain ⟨hi, rfl⟩ := rangeD_get hd
    refine ⟨_, .nm T3, ?_⟩
    refine db_cons (ds_set c.toCv G2 (de_bin (dv c.toCv G2 G2) (dv c.toCv G0 G0) (by walk_at "o_mul")) T2 ?_)
    exact db_nil ⟨_, le_same (le_same (le_eq (by rw [Int.pow_succ]) (le_drop le_nil))), rfl⟩
  rw [rangeD_len] at hi
  subst hi
  exact db_cons (ds_ret (dv c.toCv G2 G2) rfl)
abbrev s_tag_of : Stmt := topS 13
abbrev n_tag_of : List Str := ["long", "place", "k"]
theorem sc_tag_of : FnScope n_tag_of ["long", "place"] (defScope s_tag_of) := ⟨rfl, rfl, rfl, by decide +kernel, rfl, by decide +kernel, by decide +kernel⟩
def phi_tag_of (NT : Addr) : List PyData → Out → Prop := fun ds o => ∃ (n p : Int), ds = [.int n, .int p] ∧ (0 ≤ n ∧ n ≤ 20) ∧ o = if 0 ≤ p ∧ p < 2 ^ n.toNat then .ret (S (bitsF p n.toNat)) else .exc NT
theorem i_tag_of {NT : Addr} {n p : Int} (h1 : 0 ≤ n ∧ n ≤ 20) : phi_tag_of NT [.int n, .int p] (if 0 ≤ p ∧ p < 2 ^ n.toNat then .ret (S (bitsF p n.toNat)) else .exc NT) := ⟨_, _, rfl, h1, rfl⟩
local macro_rules | `(tactic| walk_at "f_tag_of") => `(tactic| exact i_tag_of (by walk_at "sd"))
theorem ok_tag_of (g : Bl M.mg) {NT : Addr} (EN : Exc M "NoTag" NT bmV) (Gpower : Fok M 1 "power" phi_power) {f : Addr} {fd : FuncData} (F : Fun M.K "tag_of" "tag_of" s_tag_of f fd) (hm : M.mg "tag_of" = some (.ref f)) (hb : Binds M.K fd ["long", "place"] []) : Fok M 2 "tag_of" (phi_tag_of NT) := by
  refine fok_mk (N := n_tag_of) F hm hb sc_tag_of (fun ds o h => by obtain ⟨n, p, rfl, _⟩ := h; rfl) fun X W ds o c h => ?_
  obtain ⟨n, p, rfl, h1, rfl⟩ := h
  show DB M X W _ [.v (.int n), .v (.int p), .no] _ _
  refine db_cons (ds_if (dt_not (dt_chain (bb := decide (0 ≤ p ∧ p < 2 ^ n.toNat)) (b2 := decide (p < 2 ^ n.toNat)) de_int (dv c.toCv G1 G1) o_le (fun _ => (de_call c Gpower (by decide) (da_cons de_int (da_cons (dv c.toCv G0 G0) da_nil)) (i_power (by decide) (by omega)))) (fun _ => o_lt) (he := Bool.decide_and _ _))) (fun hb => ?_) (fun hb => db_end ?_))
  · skip
    have hb : ¬ (0 ≤ p ∧ p < 2 ^ n.toNat) := fun z => nope hb (decide_eq_true z)
    exact db_cons (ds_raise c EN (by show _ = _; rw [if_neg hb]))
  have hb : 0 ≤ p ∧ p < 2 ^ n.toNat := by
    have hb := congrArg (!·) hb
    rw [Bool.not_not] at hb
    exact of_decide_eq_true hb
  exact db_cons (ds_ret (de_join (ls := (List.range n.toNat).map fun i => [48 + (p / 2 ^ (n.toNat - 1 - i) % 2).toNat]) c.toCv (de_strS [] rfl) (DE.eq (DL.de (dl_lcM (own := [("k", 2)]) (xs := List.range n.toNat) (enc := fun i => .int (n - 1 + (i : Nat) * -1)) (f := fun i => S [48 + (p / 2 ^ (n.toNat - 1 - i) % 2).toNat]) c (by decide +kernel) (DI.eq (di_down c.toCv g.range (de_bin (dv c.toCv G0 G0) de_int o_sub) (de_neg de_int) (de_neg de_int) (by refine ⟨?_, ?_, ?_, ?_⟩ <;> omega)) (by unfold rangeDn; congr 2; omega)) (fun X1 c1 => (pat_nm c1.toCv G2)) (by decide) (.cons .nil (.s (.s .zn))) (fun i hi => by
    have e2 := List.mem_range.mp hi
    have e3 : (n - 1 + (i : Nat) * -1).toNat = n.toNat - 1 - i := by omega
    have b2 := Int.emod_two_eq (p / 2 ^ (n.toNat - 1 - i))
    have pp : (0 : Int) < 2 ^ (n.toNat - 1 - i) := Int.pow_pos (by decide)
    have pq : (2 : Int) ^ (n.toNat - 1 - i) ≤ 2 ^ 20 := pow_le2 (by omega)
    refine ⟨_, .nm T2, fun X1 c1 => (de_callTy c1.toCv g.str boot_str (da_cons (de_bin (de_bin (dv c1.toCv G1 G1) (de_call c1 Gpower (by decide) (da_cons de_int (da_cons (dv c1.toCv G2 G2) da_nil)) (i_power (by decide) (by omega))) (by rw [e3]; refine o_fdiv ?_; constructor <;> omega)) de_int (by walk_at "o_mod")) da_nil) (by walk_at "c_str"))⟩) (by walk_at "sz"))) (by rw [List.map_map]; rfl)) (jz1 _ _ (by rw [List.length_range]; omega))) (by show _ = _; rw [if_pos hb, join1, bits_down]))
abbrev s__law_sound : Stmt := topS 23
abbrev n__law_sound : List Str := ["lot", "ahead", "some", "gathered", "k", "ones", "tag"]
theorem sc__law_sound : FnScope n__law_sound ["lot", "ahead"] (defScope s__law_sound) := ⟨rfl, rfl, rfl, by decide +kernel, rfl, by decide +kernel, by decide +kernel⟩
def phi__law_sound : List PyData → Out → Prop := fun ds o => ∃ (ls : List Tag) (b : Tag) (n : Nat), ds = [.tuple (ls.map S), S b] ∧ (∀ t ∈ ls, IsTag n t) ∧ (n ≤ 1000) ∧ (b.length ≤ 1000) ∧ (ls.length ≤ 1000) ∧ o = .ret (heardF ls b)
theorem i__law_sound {ls : List Tag} {b : Tag} {n : Nat} (h1 : ∀ t ∈ ls, IsTag n t) (h2 : n ≤ 1000) (h3 : b.length ≤ 1000) (h4 : ls.length ≤ 1000) : phi__law_sound [.tuple (ls.map S), S b] (.ret (heardF ls b)) := ⟨_, _, _, rfl, h1, h2, h3, h4, rfl⟩
local macro_rules | `(tactic| walk_at "f__law_sound") => `(tactic| exact i__law_sound (by walk_at "tags") (by walk_at "sd") (by walk_at "sz") (by walk_at "sz"))
theorem ok__law_sound (g : Bl M.mg) (G_law_among : Fok M 1 "_law_among" phi__law_among) {f : Addr} {fd : FuncData} (F : Fun M.K "_law_sound" "_law_sound" s__law_sound f fd) (hm : M.mg "_law_sound" = some (.ref f)) (hb : Binds M.K fd ["lot", "ahead"] []) : Fok M 2 "_law_sound" (phi__law_sound) := by
  refine fok_mk (N := n__law_sound) F hm hb sc__law_sound (fun ds o h => by obtain ⟨ls, b, n, rfl, _⟩ := h; rfl) fun X W ds o c h => ?_
  obtain ⟨ls, b, n, rfl, h1, h2, h3, h4, rfl⟩ := h
  show DB M X W _ [.v (.tuple (ls.map S)), .v (S b), .no, .no, .no, .no, .no] _ _
  refine db_cons (ds_set c.toCv G2 (de_call c G_law_among (by decide) (da_cons (dv c.toCv G0 G0) (da_cons (dv c.toCv G1 G1) da_nil)) (by walk_at "f__law_among")) T2 ?_)
  have ha : ∀ t ∈ amF b ls, Asc t := fun t ht => tag_asc (h1 t (am_mem ht).1)
  rcases he : amF b ls with _ | ⟨t0, r⟩
  · refine db_cons (ds_if (bb := true) (dt_cmp (dv c.toCv G2 G2) (de_lst da_nil (by decide)) (o_eqD c.toCv rfl rfl) (nomark _)) (fun hb => ?_) (fun hb => by cases hb))
    exact db_cons (ds_ret de_non (by rw [heard_nil he]))
  rw [he] at ha
  have hm := am_mem (b := b) (ls := ls) (t := t0) (by rw [he]; exact List.mem_cons_self)
  have htg : ∀ t ∈ t0 :: r, IsTag n t := fun t ht => h1 t (am_mem (b := b) (by rw [he]; exact ht)).1
  have hlen : ∀ t ∈ t0 :: r, t.length = n := fun t ht => (htg t ht).1
  have h0 := hlen t0 List.mem_cons_self
  have hl : b.length ≤ n := by have := congrArg List.length hm.2; rw [List.length_take, h0] at this; omega
  have hrl := am_len b ls
  rw [he, List.length_cons] at hrl
  refine db_cons (ds_if (dt_cmp (dv c.toCv G2 G2) (de_lst da_nil (by walk_at "sz")) (by walk_at "o_eq") (nomark _)) (fun hb => ?_) (fun hb => db_end ?_))
  · exact absurd hb Bool.false_ne_true
  refine db_cons (ds_set c.toCv G3 (de_strS [] rfl) T3 ?_)
  refine db_cons (ds_for c (pat_nm c.toCv G4) (di_range2 c.toCv g.range (de_callB c.toCv g.len boot_len (da_cons (dv c.toCv G1 G1) da_nil) (by walk_at "c_len")) (de_callB c.toCv g.len boot_len (da_cons (de_ix (dv c.toCv G2 G2) de_int (by walk_at "ix")) da_nil) (by walk_at "c_len")) (by walk_at "rg")) (fun i ρ => ρ = [.v (.tuple (ls.map S)), .v (S b), .v (.list ((t0 :: r).map S)), .v (S ((List.range i).map (soundF b t0 r))), .no, .no, .no]) rfl (fun i d ρ' hd hi => ?_) (fun ρ' hi => ?_))
  · skip
    subst hi
    obtain ⟨hi, rfl⟩ := rangeD_get hd
    have hi : i < ((t0.length : Int) - (b.length : Int)).toNat := hi
    have sb := ones_blur (b := b) (i := i) htg (by omega)
    refine ⟨_, .nm T4, ?_⟩
    refine db_cons (ds_set c.toCv G5 (de_callB c.toCv g.len boot_len (da_cons (DL.de (dl_lcT (own := [("tag", 6)]) (xs := t0 :: r) (enc := S) (f := S) (t := fun u => decide ([u.getD (b.length + i) 0] = [49])) c (by decide +kernel) (di_list c.toCv (dv c.toCv G2 G2)) (fun X1 c1 => (pat_nm c1.toCv G6)) (by decide) (.cons .nil (.s (.s (.s (.s (.s (.s .zn))))))) (fun a1 ha1 => by
    have e1 := hlen a1 ha1
    have e3 := at_S (t := a1) (i := (b.length : Int) + (i : Nat)) (by omega) (by omega)
    rw [show ((b.length : Int) + (i : Nat)).toNat = b.length + i by omega] at e3
    exact ⟨_, .nm T6, fun X1 c1 => ⟨(dts_one (dt_cmp (de_ix (dv c1.toCv G6 G6) (dv c1.toCv G4 G4) (ix_s (by omega) e3)) (de_strS [49] rfl) o_eqSS (nomark _))), fun ht1 => (dv c1.toCv G6 G6)⟩⟩) (by walk_at "sz"))) da_nil) (by walk_at "c_len")) T5 ?_)
    rw [List.length_map]
    refine db_cons (ds_set c.toCv G3 (de_bin (dv c.toCv G3 G3) (d2 := S [soundF b t0 r i]) (de_if (dt_cmp (dv c.toCv G5 G5) de_int o_eqI (nomark _)) (fun hb => DE.eq (de_strS [48] rfl) (by rw [← sb, if_pos (of_decide_eq_true hb)])) (fun hb => de_if (dt_cmp (dv c.toCv G5 G5) (de_callB c.toCv g.len boot_len (da_cons (dv c.toCv G2 G2) da_nil) (by walk_at "c_len")) o_eqI (nomark _)) (fun hb2 => DE.eq (de_strS [49] rfl) (by rw [List.length_map] at hb2; rw [← sb, if_neg (of_decide_eq_false hb), if_pos (of_decide_eq_true hb2)])) (fun hb2 => DE.eq (de_strS [120] rfl) (by rw [List.length_map] at hb2; rw [← sb, if_neg (of_decide_eq_false hb), if_neg (of_decide_eq_false hb2)])))) (by walk_at "o_add")) T3 ?_)
    exact db_nil ⟨_, le_same (le_same (le_same (le_eq (by rw [List.range_succ, List.map_append]; rfl) (le_drop (le_drop (le_drop le_nil)))))), rfl⟩
  rw [rangeD_len] at hi
  subst hi
  exact db_cons (ds_ret (dv c.toCv G3 G3) (by rw [heard_cons he, show ((t0.length : Int) - (b.length : Int)).toNat = t0.length - b.length by omega]))
def Pl : Nat → PyData → Prop
  | _, .none => True
  | _, .bool _ => True
  | _, .int _ => True
  | _, .str s => PyData.strOk s = true
  | n + 1, .tuple xs => xs.length ≤ 100000 ∧ ∀ x ∈ xs, Pl n x
  | _, _ => False
abbrev s__law_same : Stmt := topS 17
abbrev n__law_same : List Str := ["found", "due", "one", "other"]
theorem sc__law_same : FnScope n__law_same ["found", "due"] (defScope s__law_same) := ⟨rfl, rfl, rfl, by decide +kernel, rfl, by decide +kernel, by decide +kernel⟩
def phi__law_same (n : Nat) : List PyData → Out → Prop := fun ds o => ∃ d, ds = [d, d] ∧ Pl n d ∧ o = .ret (.bool true)
theorem zip_self : ∀ xs : List PyData, zipD xs xs = xs.map fun x => .tuple [x, x]
  | [] => rfl
  | x :: r => by
    show PyData.tuple [x, x] :: zipD r r = _
    rw [zip_self r]
    rfl
theorem all_true (xs : List PyData) : (xs.all fun _ => true) = true := List.all_eq_true.mpr fun _ _ => rfl
theorem same_step (g : Bl M.mg) {n : Nat} (G_law_same : ∀ m, n = m + 1 → Fok M (1 + m) "_law_same" (phi__law_same m)) {f : Addr} {fd : FuncData} (F : Fun M.K "_law_same" "_law_same" s__law_same f fd) (hm : M.mg "_law_same" = some (.ref f)) (hb : Binds M.K fd ["found", "due"] []) : Fok M (n + 1) "_law_same" (phi__law_same n) := by
  refine fok_mk (N := n__law_same) F hm hb sc__law_same (fun ds o h => by obtain ⟨d, rfl, _⟩ := h; rfl) fun X W ds o c h => ?_
  obtain ⟨d, rfl, hp, rfl⟩ := h
  show DB M X W _ [.v d, .v d, .no, .no] _ _
  cases d with
  | none =>
    refine db_cons (ds_if (bb := false) (dt_tru c.toCv (de_isi c.toCv g.isinstance (dv c.toCv G1 G1) (dc_ty c.toCv g.tuple boot_tuple) (.ty _) (by walk_at "kit")) (by walk_at "tr")) (fun hb => by cases hb) (fun hb => db_end ?_))
    refine db_cons (ds_if (bb := true) (dt_cmp (dv c.toCv G1 G1) de_non (by walk_at "o_is") (nomark _)) (fun hb => ?_) (fun hb => by cases hb))
    exact db_cons (ds_ret (de_cmp (dv c.toCv G0 G0) de_non (by walk_at "o_is") (nomark _)) rfl)
  | bool bv =>
    refine db_cons (ds_if (bb := false) (dt_tru c.toCv (de_isi c.toCv g.isinstance (dv c.toCv G1 G1) (dc_ty c.toCv g.tuple boot_tuple) (.ty _) (by walk_at "kit")) (by walk_at "tr")) (fun hb => by cases hb) (fun hb => db_end ?_))
    refine db_cons (ds_if (bb := false) (dt_cmp (dv c.toCv G1 G1) de_non (by walk_at "o_is") (nomark _)) (fun hb => by cases hb) (fun hb => db_end ?_))
    refine db_cons (ds_if (bb := true) (dt_bool (dw_or (b1 := true) (dt_tru c.toCv (de_isi c.toCv g.isinstance (dv c.toCv G1 G1) (dc_ty c.toCv g.bool boot_bool) (.ty _) (by walk_at "kit")) (by trivial)) (fun hb => by cases hb) (b2 := true))) (fun hb => ?_) (fun hb => by cases hb))
    exact db_cons (ds_ret (DE.eq (de_and (b1 := true) (de_isi c.toCv g.isinstance (dv c.toCv G1 G1) (dc_ty c.toCv g.bool boot_bool) (.ty _) (by walk_at "kit")) (fun _ => de_and (b1 := true) (de_isi c.toCv g.isinstance (dv c.toCv G0 G0) (dc_ty c.toCv g.bool boot_bool) (.ty _) (by walk_at "kit")) (fun _ => de_one (de_cmp (dv c.toCv G0 G0) (dv c.toCv G1 G1) (o_eqD c.toCv rfl rfl) (nomark _))))) (by cases bv <;> rfl)) rfl)
  | int iv =>
    refine db_cons (ds_if (bb := false) (dt_tru c.toCv (de_isi c.toCv g.isinstance (dv c.toCv G1 G1) (dc_ty c.toCv g.tuple boot_tuple) (.ty _) (by walk_at "kit")) (by walk_at "tr")) (fun hb => by cases hb) (fun hb => db_end ?_))
    refine db_cons (ds_if (bb := false) (dt_cmp (dv c.toCv G1 G1) de_non (by walk_at "o_is") (nomark _)) (fun hb => by cases hb) (fun hb => db_end ?_))
    refine db_cons (ds_if (bb := false) (DT.eq (dt_bool (dw_or (dt_tru c.toCv (de_isi c.toCv g.isinstance (dv c.toCv G1 G1) (dc_ty c.toCv g.bool boot_bool) (.ty _) (by walk_at "kit")) (by walk_at "tr")) (fun hc => (dw_or1 (dt_tru c.toCv (de_isi c.toCv g.isinstance (dv c.toCv G0 G0) (dc_ty c.toCv g.bool boot_bool) (.ty _) (by walk_at "kit")) (by walk_at "tr")))))) rfl) (fun hb => by cases hb) (fun hb => db_end ?_))
    exact db_cons (ds_ret (DE.eq (de_and (b1 := true) (de_isiT c.toCv g.isinstance (dv c.toCv G0 G0) (dcs_cons (dc_ty c.toCv g.int boot_int) (dcs_cons (dc_ty c.toCv g.str boot_str) dcs_nil)) (by decide) (.cons (.ty _) (.cons (.ty _) .nil)) (by walk_at "kits")) (fun _ => de_one (de_cmp (dv c.toCv G0 G0) (dv c.toCv G1 G1) o_eqI (nomark _)))) (by rw [decide_eq_true rfl]; rfl)) rfl)
  | str sv =>
    refine db_cons (ds_if (bb := false) (dt_tru c.toCv (de_isi c.toCv g.isinstance (dv c.toCv G1 G1) (dc_ty c.toCv g.tuple boot_tuple) (.ty _) (by walk_at "kit")) (by walk_at "tr")) (fun hb => by cases hb) (fun hb => db_end ?_))
    refine db_cons (ds_if (bb := false) (dt_cmp (dv c.toCv G1 G1) de_non (by walk_at "o_is") (nomark _)) (fun hb => by cases hb) (fun hb => db_end ?_))
    refine db_cons (ds_if (bb := false) (DT.eq (dt_bool (dw_or (dt_tru c.toCv (de_isi c.toCv g.isinstance (dv c.toCv G1 G1) (dc_ty c.toCv g.bool boot_bool) (.ty _) (by walk_at "kit")) (by walk_at "tr")) (fun hc => (dw_or1 (dt_tru c.toCv (de_isi c.toCv g.isinstance (dv c.toCv G0 G0) (dc_ty c.toCv g.bool boot_bool) (.ty _) (by walk_at "kit")) (by walk_at "tr")))))) rfl) (fun hb => by cases hb) (fun hb => db_end ?_))
    exact db_cons (ds_ret (DE.eq (de_and (b1 := true) (de_isiT c.toCv g.isinstance (dv c.toCv G0 G0) (dcs_cons (dc_ty c.toCv g.int boot_int) (dcs_cons (dc_ty c.toCv g.str boot_str) dcs_nil)) (by decide) (.cons (.ty _) (.cons (.ty _) .nil)) (by walk_at "kits")) (fun _ => de_one (de_cmp (dv c.toCv G0 G0) (dv c.toCv G1 G1) o_eqS (nomark _)))) (by rw [decide_eq_true rfl]; rfl)) rfl)
  | tuple xs =>
    cases n with
    | zero => exact hp.elim
    | succ m =>
      have G := G_law_same m rfl
      refine db_cons (ds_if (bb := true) (dt_tru c.toCv (de_isi c.toCv g.isinstance (dv c.toCv G1 G1) (dc_ty c.toCv g.tuple boot_tuple) (.ty _) (by walk_at "kit")) (by walk_at "tr")) (fun hb => ?_) (fun hb => by cases hb))
      refine db_cons (ds_if (bb := false) (DT.eq (dt_bool (dw_or (dt_not (dt_tru c.toCv (de_isi c.toCv g.isinstance (dv c.toCv G0 G0) (dc_ty c.toCv g.tuple boot_tuple) (.ty _) (by walk_at "kit")) (by trivial))) (fun _ => dw_or1 (dt_cmp (de_callB c.toCv g.len boot_len (da_cons (dv c.toCv G0 G0) da_nil) (by walk_at "c_len")) (de_callB c.toCv g.len boot_len (da_cons (dv c.toCv G1 G1) da_nil) (by walk_at "c_len")) o_neI (nomark _))))) (by rw [decide_eq_true rfl]; rfl)) (fun hb => by cases hb) (fun hb => db_end ?_))
      exact db_cons (ds_ret (DE.eq (de_callB c.toCv g.all boot_all (da_cons (DL.de (dl_lcM (own := [("one", 2), ("other", 3)]) (xs := xs) (enc := fun x => .tuple [x, x]) (f := fun _ => .bool true) c (by decide +kernel) (DI.eq (di_zip c.toCv g.zip (dv c.toCv G0 G0) (dv c.toCv G1 G1) (.inr ⟨rfl, rfl⟩)) (zip_self xs)) (fun X1 c1 => (pat_tp2 c1 G2 G3)) (by decide) (.cons (.cons .nil (.s (.s (.s .zn)))) (.s (.s .zn))) (fun x hx => ⟨_, .tp (.cons T2 (.cons T3 .nil)), fun X1 c1 => (de_call c1 G (by omega) (da_cons (dv c1.toCv G2 G2) (da_cons (dv c1.toCv G3 G3) da_nil)) ⟨x, rfl, hp.2 x hx, rfl⟩)⟩) (by have := hp.1; omega))) da_nil) (cl_all (t := fun _ => true) c.calm)) (by rw [all_true])) rfl)
  | list xs => cases n <;> exact hp.elim
  | dict kvs => cases n <;> exact hp.elim
theorem ok__law_same (g : Bl M.mg) {f : Addr} {fd : FuncData} (F : Fun M.K "_law_same" "_law_same" s__law_same f fd) (hm : M.mg "_law_same" = some (.ref f)) (hb : Binds M.K fd ["found", "due"] []) : ∀ n, Fok M (n + 1) "_law_same" (phi__law_same n)
  | 0 => same_step g (fun m h => by omega) F hm hb
  | n + 1 => same_step g (fun m h => by
    have e : m = n := by omega
    subst e
    rw [Nat.add_comm]
    exact ok__law_same g F hm hb m) F hm hb

structure Ex (M : Md) (TE NT NL ND OV NX : Addr) : Prop where
  m_TE : M.mg "TagError" = some (.ref TE)
  m_NT : M.mg "NoTag" = some (.ref NT)
  m_NL : M.mg "NoLot" = some (.ref NL)
  m_ND : M.mg "NotDone" = some (.ref ND)
  m_OV : M.mg "Over" = some (.ref OV)
  m_NX : M.mg "NoText" = some (.ref NX)
  x_NT : Exc M "NoTag" NT bmV
  c_NT : ExcC M.K NT
  e_NT : PySem.W.exmOne M.K (.ref NT) (.ref TE) = some true
  k_NT_NT : PySem.W.kitOne M.K (.ref NT) (.ref NT) = some true
  k_NT_NL : PySem.W.kitOne M.K (.ref NT) (.ref NL) = some false
  k_NT_ND : PySem.W.kitOne M.K (.ref NT) (.ref ND) = some false
  k_NT_OV : PySem.W.kitOne M.K (.ref NT) (.ref OV) = some false
  k_NT_NX : PySem.W.kitOne M.K (.ref NT) (.ref NX) = some false
  v_NT : PySem.W.kitOne M.K (.ref NT) (.type "ValueError") = some true
theorem boot_ValueError : bootBuiltins "ValueError" = some (.type "ValueError") := by decide +kernel

abbrev s__law_word : Stmt := topS 24
abbrev n__law_word : List Str := ["what", "kinds"]
theorem sc__law_word : FnScope n__law_word ["what"] (defScope s__law_word) := ⟨rfl, rfl, rfl, by decide +kernel, rfl, by decide +kernel, by decide +kernel⟩
def psi_word (NT : Addr) : Addr → PyData → Prop := fun C d => (C = NT ∧ d = S [110, 111, 32, 116, 97, 103])
theorem ok__law_word (g : Bl M.mg) {TE NT NL ND OV NX : Addr} (E : Ex M TE NT NL ND OV NX) {f : Addr} {fd : FuncData} (F : Fun M.K "_law_word" "_law_word" s__law_word f fd) (hm : M.mg "_law_word" = some (.ref f)) (hb : Binds M.K fd ["what"] []) : FokE M 1 "_law_word" (psi_word NT) := by
  refine fokE_mk (N := n__law_word) F hm hb sc__law_word fun X a C d c h => ?_
  show DB M X Wf _ [.r (.ref a), .no] _ _
  rcases h with ⟨rfl, rfl⟩
  · refine db_cons (ds_set c.toCv G1 (de_lst (da_cons (de_isX c E.c_NT g.isinstance (dc_raw c.toCv 0 rfl rfl) (dc_own c.toCv E.m_NT) (.own _) E.k_NT_NT) (da_cons (de_isX c E.c_NT g.isinstance (dc_raw c.toCv 0 rfl rfl) (dc_own c.toCv E.m_NL) (.own _) E.k_NT_NL) da_nil)) (by decide)) T1 ?_)
    refine db_cons (ds_setN c.toCv G1 (dn_addL (dv c.toCv G1 G1) (de_lst (da_cons (de_isX c E.c_NT g.isinstance (dc_raw c.toCv 0 rfl rfl) (dc_own c.toCv E.m_ND) (.own _) E.k_NT_ND) (da_cons (de_isX c E.c_NT g.isinstance (dc_raw c.toCv 0 rfl rfl) (dc_own c.toCv E.m_OV) (.own _) E.k_NT_OV) da_nil)) (by decide)) (by decide)) T1 ?_)
    refine db_cons (ds_append c.toCv G1 G1 (de_isX c E.c_NT g.isinstance (dc_raw c.toCv 0 rfl rfl) (dc_own c.toCv E.m_NX) (.own _) E.k_NT_NX) T1 (by decide) ?_)
    refine db_freeze 1 rfl ?_
    show DB M X Wf _ [.r (.ref a), .v (.list [.bool true, .bool false, .bool false, .bool false, .bool false])] _ _
    refine db_cons (ds_if (bb := false) (DT.eq (dt_bool (dw_or (dt_cmp (de_count c.toCv (dv c.toCv G1 G1) de_bl rfl rfl) de_int o_neI (nomark _)) (fun _ => dw_or1 (dt_not (dt_tru c.toCv (de_isX c E.c_NT g.isinstance (dc_raw c.toCv 0 rfl rfl) (dc_ty c.toCv g.ValueError boot_ValueError) (.ty _) E.v_NT) (by trivial)))))) (by decide)) (fun hb => by cases hb) (fun hb => db_end ?_))
    exact db_cons (ds_ret (de_ix (de_tup (da_cons (de_strS [110, 111, 32, 116, 97, 103] rfl) (da_cons (de_strS [110, 111, 32, 108, 111, 116] rfl) (da_cons (de_strS [110, 111, 116, 32, 100, 111, 110, 101] rfl) (da_cons (de_strS [111, 118, 101, 114] rfl) (da_cons (de_strS [110, 111, 32, 116, 101, 120, 116] rfl) da_nil))))) (by decide)) (de_index (j := 0) (z' := .bl true) c.toCv (dv c.toCv G1 G1) de_bl rfl rfl rfl rfl (fun m z hm hz => match m, hm, hz with  | m + 0, hm, _ => absurd hm (by omega))) (ix_t c.toCv rfl)) rfl)

def saidF (n p : Int) : Tag := if 0 ≤ p ∧ p < 2 ^ n.toNat then bitsF p n.toNat else [110, 111, 32, 116, 97, 103]
abbrev s__law_said : Stmt := topS 25
abbrev n__law_said : List Str := ["long", "place", "e"]
theorem sc__law_said : FnScope n__law_said ["long", "place"] (defScope s__law_said) := ⟨rfl, rfl, rfl, by decide +kernel, rfl, by decide +kernel, by decide +kernel⟩
def phi__law_said : List PyData → Out → Prop := fun ds o => ∃ (n p : Int), ds = [.int n, .int p] ∧ (0 ≤ n ∧ n ≤ 20) ∧ o = .ret (S (saidF n p))
theorem i__law_said {n p : Int} (h1 : 0 ≤ n ∧ n ≤ 20) : phi__law_said [.int n, .int p] (.ret (S (saidF n p))) := ⟨_, _, rfl, h1, rfl⟩
local macro_rules | `(tactic| walk_at "f__law_said") => `(tactic| exact i__law_said (by walk_at "sd"))
theorem ok__law_said (g : Bl M.mg) {TE NT NL ND OV NX : Addr} (E : Ex M TE NT NL ND OV NX) (Gtag_of : Fok M 2 "tag_of" (phi_tag_of NT)) (Gword : FokE M 1 "_law_word" (psi_word NT)) {f : Addr} {fd : FuncData} (F : Fun M.K "_law_said" "_law_said" s__law_said f fd) (hm : M.mg "_law_said" = some (.ref f)) (hb : Binds M.K fd ["long", "place"] []) : Fok M 3 "_law_said" phi__law_said := by
  refine fok_mkT (N := n__law_said) F hm hb sc__law_said (fun ds o h => by obtain ⟨n, p, rfl, _⟩ := h; rfl) fun X W ds o c tr h => ?_
  obtain ⟨n, p, rfl, h1, rfl⟩ := h
  show DB M X W _ [.v (.int n), .v (.int p), .no] _ _
  refine db_cons (ds_tryAs c tr G2 E.m_TE (fun C ρ' => C = NT ∧ ¬ (0 ≤ p ∧ p < 2 ^ n.toNat) ∧ ρ' = [.v (.int n), .v (.int p), .no]) (fun X' W' c' => ?_) (fun C ρ' h => ?_))
  · by_cases q : 0 ≤ p ∧ p < 2 ^ n.toNat
    · exact db_cons (ds_ret (de_call c' Gtag_of (by decide) (da_cons (dv c'.toCv G0 G0) (da_cons (dv c'.toCv G1 G1) da_nil)) ⟨n, p, rfl, h1, by rw [if_pos q]⟩) (by show _ = _; unfold saidF; rw [if_pos q]))
    · exact db_cons (ds_callX c' Gtag_of (by decide) (da_cons (dv c'.toCv G0 G0) (da_cons (dv c'.toCv G1 G1) da_nil)) ⟨n, p, rfl, h1, by rw [if_neg q]⟩ ⟨rfl, q, rfl⟩)
  · obtain ⟨rfl, q, rfl⟩ := h
    refine ⟨true, E.e_NT, fun _ X' a hx => ⟨_, T2, ?_⟩, fun z => by cases z⟩
    exact db_cons (ds_ret (de_callE hx Gword (by decide) (dc_raw hx.toCv 2 rfl rfl) ⟨rfl, rfl⟩) (by show _ = _; unfold saidF; rw [if_neg q]))

theorem q6 (lot : List Tag) (t : Tag) : cut (lot.map S) none (some 4) ++ [S t] = (lot.take 4 ++ [t]).map S := by
  rw [cut_map, cut_to lot (by decide), List.map_append]
  rfl
theorem q6l {lot : List Tag} {n : Nat} {p : Int} {tg : Tag} (h : ∀ t ∈ lot, t.length = n) (hm : tg ∈ lot.take 4 ++ [bitsF p n]) : tg.length = n := by
  rcases List.mem_append.mp hm with q | q
  · exact h tg (List.mem_of_mem_take q)
  · rw [List.mem_singleton.mp q, bits_len]
theorem q6i {lot : List Tag} {x tg : Tag} {i : Nat} (h : (lot.take 4 ++ [x])[i]? = some tg) : i < 5 := by
  have := (List.getElem?_eq_some_iff.mp h).1
  rw [List.length_append, List.length_take] at this
  simp at this
  omega
theorem q6n {lot : List Tag} {x : Tag} : ((lot.take 4 ++ [x]).map S).length = (lot.take 4).length + 1 := by rw [List.length_map, List.length_append]; rfl
theorem q7 {fs : List Tag} {tg : Tag} {k : Nat} (h : ∀ t ∈ fs, t.length ≤ 10) (ht : tg.length ≤ 10) : ∀ t ∈ fs ++ (List.range k).map (fun (n : Nat) => cut tg none (some (0 + ((n : Nat) : Int)))), t.length ≤ 10 := fun t hm => by
  rcases List.mem_append.mp hm with q | q
  · exact h t q
  · obtain ⟨n, _, rfl⟩ := List.mem_map.mp q
    have := cut_len tg none (some (0 + (n : Int)))
    omega
theorem pl_S {n : Nat} {t : Tag} (h : Asc t) : Pl n (S t) := by
  cases n <;> exact asc_ok h
theorem sound_asc {b t : Tag} {r : List Tag} {n i : Nat} (h : ∀ u ∈ t :: r, IsTag n u) : soundF b t r i < 128 := by
  unfold soundF blurF
  split
  · rw [List.getD_eq_getElem?_getD]
    cases hq : t[b.length + i]? with
    | none => decide
    | some q =>
      have := (h t List.mem_cons_self).2 q (List.mem_of_getElem? hq)
      show q < 128
      omega
  · decide
theorem pl_heardF {ls : List Tag} {b : Tag} {n m : Nat} (h : ∀ t ∈ ls, IsTag n t) : Pl m (heardF ls b) := by
  rcases he : amF b ls with _ | ⟨t, r⟩
  · rw [heard_nil he]
    cases m <;> exact True.intro
  · rw [heard_cons he]
    refine pl_S fun q hq => ?_
    obtain ⟨i, _, rfl⟩ := List.mem_map.mp hq
    exact sound_asc (n := n) fun u hu => h u (am_mem (b := b) (by rw [he]; exact hu)).1
theorem pl_strs {ls : List Tag} {m : Nat} (h : ∀ t ∈ ls, Asc t) (hl : ls.length ≤ 100000) : Pl (m + 1) (.tuple (ls.map S)) := by
  refine ⟨by rw [List.length_map]; exact hl, fun x hx => ?_⟩
  obtain ⟨t, ht, rfl⟩ := List.mem_map.mp hx
  exact pl_S (h t ht)
theorem pl_heard {ls : List Tag} {b : Tag} {n : Nat} (h : ∀ t ∈ ls, IsTag n t) (hl : ls.length ≤ 1000) : Pl 2 (.tuple [.tuple ((amF b ls).map S), heardF ls b]) := by
  refine ⟨by show (2 : Nat) ≤ 100000; decide, fun x hx => ?_⟩
  rcases List.mem_cons.mp hx with e | hx
  · rw [e]
    have := am_len b ls
    exact pl_strs (fun t ht => tag_asc (h t (am_mem ht).1)) (by omega)
  · rw [List.mem_singleton.mp hx]
    exact pl_heardF h
theorem num_app (a : Int) : ∀ (t : Tag), t.foldl (fun (a : Int) (q : Nat) => 2 * a + ((q : Int) - 48)) a = a * 2 ^ t.length + numF t
  | [] => by show a = a * 2 ^ 0 + 0; rw [Int.pow_zero]; omega
  | q :: t => by
    have h1 := num_app (2 * a + ((q : Int) - 48)) t
    have h2 := num_app (2 * 0 + ((q : Int) - 48)) t
    show t.foldl _ (2 * a + ((q : Int) - 48)) = _ + t.foldl _ (2 * 0 + ((q : Int) - 48))
    rw [h1, h2, List.length_cons, Int.pow_succ, Int.add_mul, Int.add_mul, Int.mul_zero, Int.zero_mul, Int.zero_add]
    have : 2 * a * 2 ^ t.length = a * (2 ^ t.length * 2) := by rw [Int.mul_comm 2 a, Int.mul_assoc, Int.mul_comm 2]
    rw [this]
    omega
theorem num_bits' (p : Int) : ∀ n : Nat, numF (bitsF p n) = p % 2 ^ n
  | 0 => by show (0 : Int) = p % 2 ^ 0; rw [Int.pow_zero, Int.emod_one]
  | n + 1 => by
    have h := num_app (2 * 0 + (((48 + (plF p n % 2).toNat : Nat) : Int) - 48)) (bitsF p n)
    show (bitsF p n).foldl _ (2 * 0 + (((48 + (plF p n % 2).toNat : Nat) : Int) - 48)) = _
    rw [h, bits_len, num_bits' p n, pl_pow]
    have b2 := Int.emod_two_eq (p / 2 ^ n)
    have e1 : (2 * 0 + (((48 + (p / 2 ^ n % 2).toNat : Nat) : Int) - 48)) = p / 2 ^ n % 2 := by omega
    rw [e1, Int.pow_succ]
    have d1 := Int.emod_add_mul_ediv p (2 ^ n)
    have d2 := Int.emod_add_mul_ediv (p / 2 ^ n) 2
    have d3 := Int.emod_add_mul_ediv p (2 ^ n * 2)
    have pp : (0 : Int) < 2 ^ n := Int.pow_pos (by decide)
    rw [Int.ediv_ediv_of_nonneg (Int.le_of_lt pp)] at d2
    have e2 : 2 ^ n * (p / 2 ^ n) = 2 ^ n * (p / 2 ^ n % 2) + 2 ^ n * 2 * (p / (2 ^ n * 2)) := by
      rw [Int.mul_assoc, ← Int.mul_add, d2]
    rw [Int.mul_comm (p / 2 ^ n % 2)]
    omega
theorem num_bits {p L : Int} (h0 : 0 ≤ p) (h : p < 2 ^ L.toNat) : numF (bitsF p L.toNat) = p := by rw [num_bits', Int.emod_eq_of_lt h0 h]
theorem said_ok {p L : Int} (h : 0 ≤ p ∧ p < 2 ^ L.toNat) : saidF L p = bitsF p L.toNat := if_pos h
theorem pl_pair {p L : Int} (h : 0 ≤ p ∧ p < 2 ^ L.toNat) : Pl 1 (.tuple [.int (numF (bitsF p L.toNat)), S (saidF L p)]) := by
  refine ⟨by show (2 : Nat) ≤ 100000; decide, fun x hx => ?_⟩
  rcases List.mem_cons.mp hx with e | hx
  · rw [e]; exact True.intro
  · rw [List.mem_singleton.mp hx, said_ok h]
    exact pl_S (tag_asc (bits_tag _ _))
theorem bits_ones (n : Nat) : ∀ i, i ≤ n → bitsF (2 ^ n - 1) i = List.replicate i 49
  | 0, _ => rfl
  | i + 1, h => by
    show (48 + (plF (2 ^ n - 1) i % 2).toNat) :: bitsF (2 ^ n - 1) i = _
    rw [bits_ones n i (by omega), List.replicate_succ, pl_pow]
    congr 1
    have pp : (0 : Int) < 2 ^ i := Int.pow_pos (by decide)
    have e : (2 : Int) ^ n = 2 ^ (n - i - 1) * 2 * 2 ^ i := by
      rw [← Int.pow_succ, ← Int.pow_add]
      congr 1
      omega
    have e2 : (2 ^ n - 1 : Int) / 2 ^ i = 2 ^ (n - i - 1) * 2 - 1 := by
      rw [e]
      have : (2 ^ (n - i - 1) * 2 * 2 ^ i - 1 : Int) = (2 ^ i - 1) + (2 ^ (n - i - 1) * 2 - 1) * 2 ^ i := by
        rw [Int.sub_mul, Int.one_mul]
        omega
      rw [this, Int.add_mul_ediv_right _ _ (by omega), Int.ediv_eq_zero_of_lt (by omega) (by omega)]
      omega
    rw [e2]
    omega
def ntW : Tag := [110, 111, 32, 116, 97, 103]
theorem few_eq {L : Int} (h : 1 ≤ L ∧ L ≤ 10) : ([-1, 2 ^ L.toNat, 2 ^ L.toNat - 1].map fun p => S (saidF L p)) = [ntW, ntW, List.replicate L.toNat 49].map S := by
  have pp : (0 : Int) < 2 ^ L.toNat := Int.pow_pos (by decide)
  have e1 : saidF L (-1) = ntW := if_neg (by omega)
  have e2 : saidF L (2 ^ L.toNat) = ntW := if_neg (by omega)
  have e3 : saidF L (2 ^ L.toNat - 1) = List.replicate L.toNat 49 := (if_pos ⟨by omega, by omega⟩).trans (bits_ones _ _ (Nat.le_refl _))
  show [S (saidF L (-1)), S (saidF L (2 ^ L.toNat)), S (saidF L (2 ^ L.toNat - 1))] = _
  rw [e1, e2, e3]
  rfl
theorem flat_rep (n : Nat) : (List.replicate n [49]).flatten = List.replicate n 49 := by
  induction n with
  | zero => rfl
  | succ n ih => rw [List.replicate_succ, List.flatten_cons, ih]; rfl
theorem asc3 (n : Nat) : ∀ t ∈ [ntW, ntW, List.replicate n 49], Asc t := fun t ht q hq => by
  have n1 : ∀ q ∈ ntW, q < 128 := by decide
  rcases List.mem_cons.mp ht with e | ht
  · exact n1 q (e ▸ hq)
  · rcases List.mem_cons.mp ht with e | ht
    · exact n1 q (e ▸ hq)
    · rw [List.mem_singleton.mp ht] at hq
      rw [List.eq_of_mem_replicate hq]
      decide

abbrev s_law : Stmt := topS 26
abbrev n_law : List Str := ["script", "k", "cell", "long", "lot", "few", "tag", "ahead", "due", "j", "place", "n"]
theorem sc_law : FnScope n_law ["script"] (defScope s_law) := ⟨rfl, rfl, rfl, by decide +kernel, rfl, by decide +kernel, by decide +kernel⟩
def phi_law : List PyData → Out → Prop := fun ds o => ∃ (ns : List Int), ds = [scrD ns] ∧ (ns.length ≤ 63) ∧ o = .ret (.bool true)
theorem i_law {ns : List Int} (h1 : ns.length ≤ 63) : phi_law [scrD ns] (.ret (.bool true)) := ⟨_, rfl, h1, rfl⟩
local macro_rules | `(tactic| walk_at "f_law") => `(tactic| exact i_law (by walk_at "sd"))
theorem ok_law (g : Bl M.mg) (G_law_same : ∀ n, Fok M (n + 1) "_law_same" (phi__law_same n)) (G_law_cell : Fok M 1 "_law_cell" phi__law_cell) (G_law_long : Fok M 2 "_law_long" phi__law_long) (G_law_lot : Fok M 2 "_law_lot" phi__law_lot) (G_law_tag : Fok M 1 "_law_tag" phi__law_tag) (G_law_mix : Fok M 1 "_law_mix" phi__law_mix) (G_law_two : Fok M 1 "_law_two" phi__law_two) (G_law_among : Fok M 1 "_law_among" phi__law_among) (G_law_sound : Fok M 2 "_law_sound" phi__law_sound) (Gamong : Fok M 1 "among" phi_among) (Gheard : Fok M 2 "heard" phi_heard) (Gnumber : Fok M 1 "number" phi_number) (G_law_said : Fok M 3 "_law_said" phi__law_said) {f : Addr} {fd : FuncData} (F : Fun M.K "law" "law" s_law f fd) : FnOk M.P M.w M.K M.mg M.base (L2N.CX M.P M.w) 4 f fd ["script"] (spX M.K phi_law) := by
  refine fn_mkD (N := n_law) F sc_law (fun ds o h => by obtain ⟨ns, rfl, _⟩ := h; rfl) fun X W ds o c h => ?_
  obtain ⟨ns, rfl, h1, rfl⟩ := h
  show DB M X W _ [.v (scrD ns), .no, .no, .no, .no, .no, .no, .no, .no, .no, .no, .no] _ _
  refine db_cons (ds_for c (pat_nm c.toCv G1) (di_range1 c.toCv g.range de_int (by walk_at "rg")) (fun i ρ => ρ = [.v (scrD ns), .no, .no, .no, .no, .no, .no, .no, .no, .no, .no, .no]) rfl (fun i d ρ' hd hi => ?_) (fun ρ' hi => ?_))
  · skip
    subst hi
    obtain ⟨hi, rfl⟩ := rangeD_get hd
    have hi0 : i < 10 := hi
    rename Nat => i0
    refine ⟨_, .nm T1, ?_⟩
    refine db_cons (ds_set c.toCv G2 (de_bin (de_call c G_law_cell (by decide) (da_cons (dv c.toCv G0 G0) (da_cons (de_bin (dv c.toCv G1 G1) de_int (by walk_at "o_mod")) da_nil)) (by walk_at "f__law_cell")) (de_bin de_int (dv c.toCv G1 G1) (by walk_at "o_mul")) (by walk_at "o_add")) T2 ?_)
    generalize cellF ns ((0 + (i0 : Int)) % 9) + 31 * (0 + (i0 : Int)) = u
    refine db_cons (ds_set c.toCv G3 (de_call c G_law_long (by decide) (da_cons (dv c.toCv G2 G2) da_nil) (by walk_at "f__law_long")) T3 ?_)
    have hL := long_in u
    generalize longF u = L at hL ⊢
    have w1 : (0 : Int) < 2 ^ L.toNat := Int.pow_pos (by decide)
    refine db_cons (ds_set c.toCv G4 (de_call c G_law_lot (by decide) (da_cons (dv c.toCv G2 G2) (da_cons (dv c.toCv G3 G3) (da_cons de_int da_nil))) (by walk_at "f__law_lot")) T4 ?_)
    obtain ⟨hlot, hln⟩ := lot_ok u L 16 (by decide)
    generalize lotF u L 16 = lot at hlot hln ⊢
    have htg := hlot.tg
    have hlen : ∀ t ∈ lot, t.length = L.toNat := fun t ht => (htg t ht).1
    refine db_cons (ds_setN c.toCv G5 (dn_lst (da_cons (de_strS [] rfl) (da_cons (de_strS [48] rfl) (da_cons (de_strS [49] rfl) da_nil))) (by walk_at "sz")) T5 ?_)
    have cl4 := cut_len (lot.map S) none (some 4)
    rw [List.length_map] at cl4
    refine db_cons (ds_for c (pat_nm c.toCv G6) (DI.eq (di_tup c.toCv (de_bin (de_sl (dv c.toCv G4 G4) do_none (do_some de_int) (by walk_at "sl")) (de_tup (da_cons (de_call c G_law_tag (by decide) (da_cons (de_call c G_law_mix (by decide) (da_cons (de_bin (de_call c G_law_cell (by decide) (da_cons (dv c.toCv G0 G0) (da_cons de_int da_nil)) (by walk_at "f__law_cell")) (dv c.toCv G1 G1) (by walk_at "o_add")) (da_cons de_int (da_cons (de_call c G_law_two (by decide) (da_cons (dv c.toCv G3 G3) da_nil) (by walk_at "f__law_two")) da_nil))) (by walk_at "f__law_mix")) (da_cons (dv c.toCv G3 G3) da_nil)) (by walk_at "f__law_tag")) da_nil) (by walk_at "sz")) (by walk_at "o_add"))) (q6 lot (bitsF (mixF (cellF ns 9 + (0 + (i0 : Int))) 9901 (2 ^ L.toNat)) L.toNat))) (fun i ρ => ∃ fs : List Tag, ρ = [.v (scrD ns), .v (.int (0 + (i0 : Int))), .v (.int u), .v (.int L), .v (.tuple (lot.map S)), .ol (fs.map S), .no, .no, .no, .no, .no, .no] ∧ (∀ t ∈ fs, t.length ≤ 10) ∧ fs.length ≤ 3 + 20 * i) ⟨[[], [48], [49]], rfl, by decide, by decide⟩ (fun i d ρ' hd hi => ?_) (fun ρ' hi => ?_))
    · skip
      obtain ⟨fs, rfl, f1, f2⟩ := hi
      rw [List.getElem?_map] at hd
      rcases hq : (lot.take 4 ++ [bitsF (mixF (cellF ns 9 + (0 + (i0 : Int))) 9901 (2 ^ L.toNat)) L.toNat])[i]? with _ | tg
      · rw [hq] at hd; cases hd
      rw [hq] at hd
      cases hd
      have tl : tg.length = L.toNat := q6l hlen (List.mem_of_getElem? hq)
      have il : i < 5 := q6i hq
      refine ⟨_, .nm T6, ?_⟩
      refine db_cons (ds_extend c.toCv G5 G5 (es' := ((List.range (L + 1).toNat).map fun (n : Nat) => cut tg none (some (0 + ((n : Nat) : Int)))).map S) (DE.eq (DL.de (dl_lcM (own := [("n", 11)]) (xs := List.range (L + 1).toNat) (enc := fun n => .int (0 + (n : Nat))) (f := fun (n : Nat) => S (cut tg none (some (0 + ((n : Nat) : Int))))) c (by decide +kernel) (di_range1 c.toCv g.range (de_bin (dv c.toCv G3 G3) de_int o_add) (by walk_at "rg")) (fun X1 c1 => (pat_nm c1.toCv G11)) (by decide) (.cons .nil (.s (.s (.s (.s (.s (.s (.s (.s (.s (.s (.s .zn)))))))))))) (fun n hn => ⟨_, .nm T11, fun X1 c1 => (de_sl (dv c1.toCv G6 G6) do_none (do_some (dv c1.toCv G11 G11)) (sl_s (by omega)))⟩) (by walk_at "sz"))) (by rw [List.map_map]; rfl)) T5 (by rw [List.length_map, List.length_map, List.length_map, List.length_range]; omega) ?_)
      exact db_nil ⟨_, le_same (le_same (le_same (le_same (le_same (le_same (le_drop (le_drop (le_drop (le_drop (le_drop (le_drop le_nil))))))))))), fs ++ (List.range (L + 1).toNat).map fun (n : Nat) => cut tg none (some (0 + ((n : Nat) : Int))), by rw [List.map_append], q7 f1 (by omega), by rw [List.length_append, List.length_map, List.length_range]; omega⟩
    obtain ⟨fs, rfl, f1, f2⟩ := hi
    rw [q6n] at f2
    have f2 : fs.length ≤ 103 := by have := List.length_take_le 4 lot; omega
    refine db_freeze 5 rfl ?_
    show DB M X W _ [.v (scrD ns), .v (.int (0 + (i0 : Int))), .v (.int u), .v (.int L), .v (.tuple (lot.map S)), .v (.list (fs.map S)), .no, .no, .no, .no, .no, .no] _ _
    refine db_cons (ds_for c (pat_nm c.toCv G7) (di_list c.toCv (dv c.toCv G5 G5)) (fun i ρ => ρ = [.v (scrD ns), .v (.int (0 + (i0 : Int))), .v (.int u), .v (.int L), .v (.tuple (lot.map S)), .v (.list (fs.map S)), .no, .no, .no, .no, .no, .no]) rfl (fun i d ρ' hd hi => ?_) (fun ρ' hi => ?_))
    · skip
      subst hi
      rw [List.getElem?_map] at hd
      rcases hq : fs[i]? with _ | b
      · rw [hq] at hd; cases hd
      rw [hq] at hd
      cases hd
      have bl := f1 b (List.mem_of_getElem? hq)
      refine ⟨_, .nm T7, ?_⟩
      refine db_cons (ds_set c.toCv G8 (de_tup (da_cons (de_callTy c.toCv g.tuple boot_tuple (da_cons (de_call c G_law_among (by decide) (da_cons (dv c.toCv G4 G4) (da_cons (dv c.toCv G7 G7) da_nil)) (by walk_at "f__law_among")) da_nil) (by walk_at "c_tuple")) (da_cons (de_call c G_law_sound (by decide) (da_cons (dv c.toCv G4 G4) (da_cons (dv c.toCv G7 G7) da_nil)) (by walk_at "f__law_sound")) da_nil)) (by walk_at "sz")) T8 ?_)
      refine db_cons (ds_if (dt_not (dt_tru c.toCv (de_call c (G_law_same 2) (by decide) (da_cons (de_tup (da_cons (de_call c Gamong (by decide) (da_cons (dv c.toCv G4 G4) (da_cons (dv c.toCv G7 G7) da_nil)) (by walk_at "f_among")) (da_cons (de_call c Gheard (by decide) (da_cons (dv c.toCv G4 G4) (da_cons (dv c.toCv G7 G7) da_nil)) (by walk_at "f_heard")) da_nil)) (by walk_at "sz")) (da_cons (dv c.toCv G8 G8) da_nil)) ⟨_, rfl, pl_heard htg (by omega), rfl⟩) (by trivial))) (fun hb => ?_) (fun hb => db_end ?_))
      · cases hb
      exact db_nil ⟨_, by walk_at "le", rfl⟩
    subst hi
    refine db_cons (ds_for c (pat_nm c.toCv G9) (di_range1 c.toCv g.range de_int (by walk_at "rg")) (fun i ρ => ρ = [.v (scrD ns), .v (.int (0 + (i0 : Int))), .v (.int u), .v (.int L), .v (.tuple (lot.map S)), .v (.list (fs.map S)), .no, .no, .no, .no, .no, .no]) rfl (fun i d ρ' hd hi => ?_) (fun ρ' hi => ?_))
    · skip
      subst hi
      obtain ⟨hi, rfl⟩ := rangeD_get hd
      refine ⟨_, .nm T9, ?_⟩
      refine db_cons (ds_set c.toCv G10 (de_call c G_law_mix (by decide) (da_cons (de_bin (de_bin (de_call c G_law_cell (by decide) (da_cons (dv c.toCv G0 G0) (da_cons de_int da_nil)) (by walk_at "f__law_cell")) (de_bin de_int (dv c.toCv G9 G9) (by walk_at "o_mul")) (by walk_at "o_add")) (dv c.toCv G1 G1) (by walk_at "o_add")) (da_cons de_int (da_cons (de_call c G_law_two (by decide) (da_cons (dv c.toCv G3 G3) da_nil) (by walk_at "f__law_two")) da_nil))) (by walk_at "f__law_mix")) T10 ?_)
      have hp := mix_in (c := cellF ns 8 + 7 * (0 + (i : Int)) + (0 + (i0 : Int))) (p := 9887) (m := 2 ^ L.toNat) w1
      generalize mixF (cellF ns 8 + 7 * (0 + (i : Int)) + (0 + (i0 : Int))) 9887 (2 ^ L.toNat) = p at hp ⊢
      have hbt := bits_tag p L.toNat
      refine db_cons (ds_set c.toCv G6 (de_call c G_law_tag (by decide) (da_cons (dv c.toCv G10 G10) (da_cons (dv c.toCv G3 G3) da_nil)) (by walk_at "f__law_tag")) T6 ?_)
      refine db_cons (ds_if (dt_not (dt_tru c.toCv (de_call c (G_law_same 1) (by decide) (da_cons (de_tup (da_cons (de_call c Gnumber (by decide) (da_cons (dv c.toCv G6 G6) da_nil) (i_number hbt.2)) (da_cons (de_call c G_law_said (by decide) (da_cons (dv c.toCv G3 G3) (da_cons (dv c.toCv G10 G10) da_nil)) (by walk_at "f__law_said")) da_nil)) (by walk_at "sz")) (da_cons (DE.eq (de_tup (da_cons (dv c.toCv G10 G10) (da_cons (dv c.toCv G6 G6) da_nil)) (by walk_at "sz")) (by rw [num_bits hp.1 hp.2, said_ok hp])) da_nil)) ⟨_, rfl, pl_pair hp, rfl⟩) (by trivial))) (fun hb => ?_) (fun hb => db_end ?_))
      · cases hb
      exact db_nil ⟨_, by walk_at "le", rfl⟩
    subst hi
    refine db_cons (ds_setL c G5 (dl_lcM (own := [("place", 10)]) (xs := [-1, 2 ^ L.toNat, 2 ^ L.toNat - 1]) (enc := PyData.int) (f := fun p => S (saidF L p)) c (by decide +kernel) (di_tup c.toCv (de_tup (da_cons (de_neg de_int) (da_cons (de_call c G_law_two (by decide) (da_cons (dv c.toCv G3 G3) da_nil) (by walk_at "f__law_two")) (da_cons (de_bin (de_call c G_law_two (by decide) (da_cons (dv c.toCv G3 G3) da_nil) (by walk_at "f__law_two")) de_int o_sub) da_nil))) (by show (3 : Nat) ≤ 100000; decide))) (fun X1 c1 => (pat_nm c1.toCv G10)) (by decide) (.cons .nil (.s (.s (.s (.s (.s (.s (.s (.s (.s (.s .zn))))))))))) (fun p hp => ⟨_, .nm T10, fun X1 c1 => (de_call c1 G_law_said (by decide) (da_cons (dv c1.toCv G3 G3) (da_cons (dv c1.toCv G10 G10) da_nil)) (by walk_at "f__law_said"))⟩) (by show (3 : Nat) ≤ 10000000; decide)) T5 ?_)
    rw [few_eq hL]
    refine db_cons (ds_if (dt_cmp (dv c.toCv G5 G5) (DE.eq (d := .list ([ntW, ntW, List.replicate L.toNat 49].map S)) (de_lst (da_cons (de_strS ntW rfl) (da_cons (de_strS ntW rfl) (da_cons (de_bin (de_strS [49] rfl) (dv c.toCv G3 G3) (by refine o_mulS ?_ ?_; (omega); (show 1 * L.toNat ≤ 100000; omega))) da_nil))) (by show (3 : Nat) ≤ 100000; decide)) (by rw [flat_rep]; rfl)) (o_neD c.toCv (shaped_lst (asc3 _)) (shaped_lst (asc3 _))) (nomark _)) (fun hb => ?_) (fun hb => db_end ?_))
    · exact nope hb (SeqAt.eqv_refl _ (SeqAt.canLay_of_shaped (shaped_lst (asc3 _))))
    exact db_nil ⟨_, by walk_at "le", rfl⟩
  subst hi
  exact db_cons (ds_ret (de_and (b1 := true) (de_cmp (de_call c Gheard (by decide) (da_cons (de_tup da_nil (by decide)) (da_cons (de_strS [] rfl) da_nil)) (i_heard (ls := []) (b := []) (n := 0) (by decide) (by decide) (by decide) (by decide))) de_non o_isN (nomark _)) (fun _ => de_and (b1 := true) (de_cmp (DE.eq (d := S [120, 49, 120]) (de_call c Gheard (by decide) (da_cons (de_tup (da_cons (de_strS [48, 49, 49, 48] rfl) (da_cons (de_strS [48, 48, 49, 49] rfl) da_nil)) (by decide)) (da_cons (de_strS [48] rfl) da_nil)) (i_heard (ls := [[48, 49, 49, 48], [48, 48, 49, 49]]) (b := [48]) (n := 4) (by decide) (by decide) (by decide) (by decide))) rfl) (de_strS [120, 49, 120] rfl) o_eqSS (nomark _)) (fun _ => de_one (de_cmp (DE.eq (d := S []) (de_call c Gheard (by decide) (da_cons (de_tup (da_cons (de_strS [48, 49] rfl) da_nil) (by decide)) (da_cons (de_strS [48, 49] rfl) da_nil)) (i_heard (ls := [[48, 49]]) (b := [48, 49]) (n := 2) (by decide) (by decide) (by decide) (by decide))) rfl) (de_strS [] rfl) o_eqSS (nomark _))))) rfl)
theorem all_mk {P : Program} {w : World} {K : PySem.W.Frag} {h : Heap} {mg : Str → Option Value} {fa TE NT NL ND OV NX f0 f1 f2 f3 f4 f5 f6 f7 f8 f9 f10 f11 f12 f13 f14 f15 f16 f17 : Addr} (X : K.In h) (G : h.Ns mainGlobals mg) (hfa : mg "law" = some (.ref fa))
    {od0 an0 od1 an1 od2 an2 od3 an3 od4 an4 od5 an5 od6 an6 od7 an7 od8 an8 od9 an9 od10 an10 od11 an11 od12 an12 od13 an13 od14 an14 od15 an15 od16 an16 od17 an17 : Option Addr} {sl0 sl1 sl2 sl3 sl4 sl5 sl6 sl7 sl8 sl9 sl10 sl11 sl12 sl13 sl14 sl15 sl16 sl17 : Array (Option Value)} {oc0 kV0 dc0 pm0 cd0 ct0 oc1 kV1 dc1 pm1 cd1 ct1 oc2 kV2 dc2 pm2 cd2 ct2 oc3 kV3 dc3 pm3 cd3 ct3 oc4 kV4 dc4 pm4 cd4 ct4 oc5 kV5 dc5 pm5 cd5 ct5 oc6 kV6 dc6 pm6 cd6 ct6 oc7 kV7 dc7 pm7 cd7 ct7 oc8 kV8 dc8 pm8 cd8 ct8 oc9 kV9 dc9 pm9 cd9 ct9 oc10 kV10 dc10 pm10 cd10 ct10 oc11 kV11 dc11 pm11 cd11 ct11 oc12 kV12 dc12 pm12 cd12 ct12 oc13 kV13 dc13 pm13 cd13 ct13 oc14 kV14 dc14 pm14 cd14 ct14 oc15 kV15 dc15 pm15 cd15 ct15 oc16 kV16 dc16 pm16 cd16 ct16 oc17 kV17 dc17 pm17 cd17 ct17 : Value}
    (a0 : PySem.W.nsIn K mainGlobals "_law_cell" = some (some (.ref f0))) (l0 : K.lookup f0 = some ⟨oc0, od0, .func (PySem.W.fnOf "_law_cell" "_law_cell" (defArgs s__law_cell) (defBody s__law_cell) (defScope s__law_cell) .none kV0 dc0 pm0 an0 cd0 ct0), sl0⟩) (c0 : PySem.W.codeIn K cd0 "_law_cell" = true) (k0 : PySem.W.keepIn K (.ref f0) = true)
    (a1 : PySem.W.nsIn K mainGlobals "_law_mix" = some (some (.ref f1))) (l1 : K.lookup f1 = some ⟨oc1, od1, .func (PySem.W.fnOf "_law_mix" "_law_mix" (defArgs s__law_mix) (defBody s__law_mix) (defScope s__law_mix) .none kV1 dc1 pm1 an1 cd1 ct1), sl1⟩) (c1 : PySem.W.codeIn K cd1 "_law_mix" = true) (k1 : PySem.W.keepIn K (.ref f1) = true)
    (a2 : PySem.W.nsIn K mainGlobals "_law_tag" = some (some (.ref f2))) (l2 : K.lookup f2 = some ⟨oc2, od2, .func (PySem.W.fnOf "_law_tag" "_law_tag" (defArgs s__law_tag) (defBody s__law_tag) (defScope s__law_tag) .none kV2 dc2 pm2 an2 cd2 ct2), sl2⟩) (c2 : PySem.W.codeIn K cd2 "_law_tag" = true) (k2 : PySem.W.keepIn K (.ref f2) = true)
    (a3 : PySem.W.nsIn K mainGlobals "_law_two" = some (some (.ref f3))) (l3 : K.lookup f3 = some ⟨oc3, od3, .func (PySem.W.fnOf "_law_two" "_law_two" (defArgs s__law_two) (defBody s__law_two) (defScope s__law_two) .none kV3 dc3 pm3 an3 cd3 ct3), sl3⟩) (c3 : PySem.W.codeIn K cd3 "_law_two" = true) (k3 : PySem.W.keepIn K (.ref f3) = true)
    (a4 : PySem.W.nsIn K mainGlobals "_law_long" = some (some (.ref f4))) (l4 : K.lookup f4 = some ⟨oc4, od4, .func (PySem.W.fnOf "_law_long" "_law_long" (defArgs s__law_long) (defBody s__law_long) (defScope s__law_long) .none kV4 dc4 pm4 an4 cd4 ct4), sl4⟩) (c4 : PySem.W.codeIn K cd4 "_law_long" = true) (k4 : PySem.W.keepIn K (.ref f4) = true)
    (a5 : PySem.W.nsIn K mainGlobals "_law_lot" = some (some (.ref f5))) (l5 : K.lookup f5 = some ⟨oc5, od5, .func (PySem.W.fnOf "_law_lot" "_law_lot" (defArgs s__law_lot) (defBody s__law_lot) (defScope s__law_lot) .none kV5 dc5 pm5 an5 cd5 ct5), sl5⟩) (c5 : PySem.W.codeIn K cd5 "_law_lot" = true) (k5 : PySem.W.keepIn K (.ref f5) = true)
    (a6 : PySem.W.nsIn K mainGlobals "among" = some (some (.ref f6))) (l6 : K.lookup f6 = some ⟨oc6, od6, .func (PySem.W.fnOf "among" "among" (defArgs s_among) (defBody s_among) (defScope s_among) .none kV6 dc6 pm6 an6 cd6 ct6), sl6⟩) (c6 : PySem.W.codeIn K cd6 "among" = true) (k6 : PySem.W.keepIn K (.ref f6) = true)
    (a7 : PySem.W.nsIn K mainGlobals "_law_among" = some (some (.ref f7))) (l7 : K.lookup f7 = some ⟨oc7, od7, .func (PySem.W.fnOf "_law_among" "_law_among" (defArgs s__law_among) (defBody s__law_among) (defScope s__law_among) .none kV7 dc7 pm7 an7 cd7 ct7), sl7⟩) (c7 : PySem.W.codeIn K cd7 "_law_among" = true) (k7 : PySem.W.keepIn K (.ref f7) = true)
    (a8 : PySem.W.nsIn K mainGlobals "blurred" = some (some (.ref f8))) (l8 : K.lookup f8 = some ⟨oc8, od8, .func (PySem.W.fnOf "blurred" "blurred" (defArgs s_blurred) (defBody s_blurred) (defScope s_blurred) .none kV8 dc8 pm8 an8 cd8 ct8), sl8⟩) (c8 : PySem.W.codeIn K cd8 "blurred" = true) (k8 : PySem.W.keepIn K (.ref f8) = true)
    (a9 : PySem.W.nsIn K mainGlobals "heard" = some (some (.ref f9))) (l9 : K.lookup f9 = some ⟨oc9, od9, .func (PySem.W.fnOf "heard" "heard" (defArgs s_heard) (defBody s_heard) (defScope s_heard) .none kV9 dc9 pm9 an9 cd9 ct9), sl9⟩) (c9 : PySem.W.codeIn K cd9 "heard" = true) (k9 : PySem.W.keepIn K (.ref f9) = true)
    (a10 : PySem.W.nsIn K mainGlobals "number" = some (some (.ref f10))) (l10 : K.lookup f10 = some ⟨oc10, od10, .func (PySem.W.fnOf "number" "number" (defArgs s_number) (defBody s_number) (defScope s_number) .none kV10 dc10 pm10 an10 cd10 ct10), sl10⟩) (c10 : PySem.W.codeIn K cd10 "number" = true) (k10 : PySem.W.keepIn K (.ref f10) = true)
    (a11 : PySem.W.nsIn K mainGlobals "power" = some (some (.ref f11))) (l11 : K.lookup f11 = some ⟨oc11, od11, .func (PySem.W.fnOf "power" "power" (defArgs s_power) (defBody s_power) (defScope s_power) .none kV11 dc11 pm11 an11 cd11 ct11), sl11⟩) (c11 : PySem.W.codeIn K cd11 "power" = true) (k11 : PySem.W.keepIn K (.ref f11) = true)
    (a12 : PySem.W.nsIn K mainGlobals "tag_of" = some (some (.ref f12))) (l12 : K.lookup f12 = some ⟨oc12, od12, .func (PySem.W.fnOf "tag_of" "tag_of" (defArgs s_tag_of) (defBody s_tag_of) (defScope s_tag_of) .none kV12 dc12 pm12 an12 cd12 ct12), sl12⟩) (c12 : PySem.W.codeIn K cd12 "tag_of" = true) (k12 : PySem.W.keepIn K (.ref f12) = true)
    (a13 : PySem.W.nsIn K mainGlobals "_law_sound" = some (some (.ref f13))) (l13 : K.lookup f13 = some ⟨oc13, od13, .func (PySem.W.fnOf "_law_sound" "_law_sound" (defArgs s__law_sound) (defBody s__law_sound) (defScope s__law_sound) .none kV13 dc13 pm13 an13 cd13 ct13), sl13⟩) (c13 : PySem.W.codeIn K cd13 "_law_sound" = true) (k13 : PySem.W.keepIn K (.ref f13) = true)
    (a14 : PySem.W.nsIn K mainGlobals "_law_same" = some (some (.ref f14))) (l14 : K.lookup f14 = some ⟨oc14, od14, .func (PySem.W.fnOf "_law_same" "_law_same" (defArgs s__law_same) (defBody s__law_same) (defScope s__law_same) .none kV14 dc14 pm14 an14 cd14 ct14), sl14⟩) (c14 : PySem.W.codeIn K cd14 "_law_same" = true) (k14 : PySem.W.keepIn K (.ref f14) = true)
    (a15 : PySem.W.nsIn K mainGlobals "_law_word" = some (some (.ref f15))) (l15 : K.lookup f15 = some ⟨oc15, od15, .func (PySem.W.fnOf "_law_word" "_law_word" (defArgs s__law_word) (defBody s__law_word) (defScope s__law_word) .none kV15 dc15 pm15 an15 cd15 ct15), sl15⟩) (c15 : PySem.W.codeIn K cd15 "_law_word" = true) (k15 : PySem.W.keepIn K (.ref f15) = true)
    (a16 : PySem.W.nsIn K mainGlobals "_law_said" = some (some (.ref f16))) (l16 : K.lookup f16 = some ⟨oc16, od16, .func (PySem.W.fnOf "_law_said" "_law_said" (defArgs s__law_said) (defBody s__law_said) (defScope s__law_said) .none kV16 dc16 pm16 an16 cd16 ct16), sl16⟩) (c16 : PySem.W.codeIn K cd16 "_law_said" = true) (k16 : PySem.W.keepIn K (.ref f16) = true)
    (a17 : PySem.W.nsIn K mainGlobals "law" = some (some (.ref f17))) (l17 : K.lookup f17 = some ⟨oc17, od17, .func (PySem.W.fnOf "law" "law" (defArgs s_law) (defBody s_law) (defScope s_law) .none kV17 dc17 pm17 an17 cd17 ct17), sl17⟩) (c17 : PySem.W.codeIn K cd17 "law" = true) (k17 : PySem.W.keepIn K (.ref f17) = true)
    (z0 : PySem.W.nsIn K mainGlobals "ValueError" = some none)
    (z1 : PySem.W.nsIn K mainGlobals "range" = some none)
    (z2 : PySem.W.nsIn K mainGlobals "tuple" = some none)
    (z3 : PySem.W.nsIn K mainGlobals "isinstance" = some none)
    (z4 : PySem.W.nsIn K mainGlobals "min" = some none)
    (z5 : PySem.W.nsIn K mainGlobals "max" = some none)
    (z6 : PySem.W.nsIn K mainGlobals "len" = some none)
    (z7 : PySem.W.nsIn K mainGlobals "all" = some none)
    (z8 : PySem.W.nsIn K mainGlobals "bool" = some none)
    (z9 : PySem.W.nsIn K mainGlobals "sorted" = some none)
    (z10 : PySem.W.nsIn K mainGlobals "int" = some none)
    (z11 : PySem.W.nsIn K mainGlobals "str" = some none)
    (z12 : PySem.W.nsIn K mainGlobals "zip" = some none)
    (mTE : PySem.W.nsIn K mainGlobals "TagError" = some (some (.ref TE)))
    (hdTE : PySem.W.hasDictIn K TE = true) (htTE : PySem.W.typeIn K (.ref TE) = some (.type "type"))
    (mNT : PySem.W.nsIn K mainGlobals "NoTag" = some (some (.ref NT)))
    (hdNT : PySem.W.hasDictIn K NT = true) (htNT : PySem.W.typeIn K (.ref NT) = some (.type "type"))
    (mNL : PySem.W.nsIn K mainGlobals "NoLot" = some (some (.ref NL)))
    (hdNL : PySem.W.hasDictIn K NL = true) (htNL : PySem.W.typeIn K (.ref NL) = some (.type "type"))
    (mND : PySem.W.nsIn K mainGlobals "NotDone" = some (some (.ref ND)))
    (hdND : PySem.W.hasDictIn K ND = true) (htND : PySem.W.typeIn K (.ref ND) = some (.type "type"))
    (mOV : PySem.W.nsIn K mainGlobals "Over" = some (some (.ref OV)))
    (hdOV : PySem.W.hasDictIn K OV = true) (htOV : PySem.W.typeIn K (.ref OV) = some (.type "type"))
    (mNX : PySem.W.nsIn K mainGlobals "NoText" = some (some (.ref NX)))
    (hdNX : PySem.W.hasDictIn K NX = true) (htNX : PySem.W.typeIn K (.ref NX) = some (.type "type"))
    (sTE : PySem.W.subIn K (.ref TE) (.type "BaseException") = some true)
    (xeNT : PySem.W.excIn K NT bmV "ValueError.__new__" = true)
    (xkNT : PySem.W.keepIn K (.ref NT) = true)
    (xsNT : PySem.W.subIn K (.ref NT) (.type "BaseException") = some true)
    (xtNT : PySem.W.typeIn K (.ref NT) = some (.type "type"))
    (y0NT : PySem.W.findIn K (.ref NT) "__getattribute__" = some (some (.builtin "BaseException.__getattribute__")))
    (y1NT : PySem.W.findIn K (.ref NT) "__getattr__" = some none)
    (y3NT : PySem.W.hasDictIn K NT = true)
    (y4NT : PySem.W.findIn K (.ref NT) "__class__" = some (some (.builtin "object.__class__")))
    (y5NT : PySem.W.specialIn K (.builtin "object.__class__") "__get__" = some (some (.builtin "getset_descriptor.__get__")))
    (y6NT : PySem.W.takesIn K (.builtin "object.__class__") = some true)
    (y7NT : PySem.W.mroIn K NT (.type "object") = some true)
    (yeNT : PySem.W.subIn K (.ref NT) (.ref TE) = some true)
    (qNLNT : PySem.W.subIn K (.ref NT) (.ref NL) = some false)
    (neNLNT : NT ≠ NL)
    (qNDNT : PySem.W.subIn K (.ref NT) (.ref ND) = some false)
    (neNDNT : NT ≠ ND)
    (qOVNT : PySem.W.subIn K (.ref NT) (.ref OV) = some false)
    (neOVNT : NT ≠ OV)
    (qNXNT : PySem.W.subIn K (.ref NT) (.ref NX) = some false)
    (neNXNT : NT ≠ NX)
    (qvNT : PySem.W.subIn K (.ref NT) (.type "ValueError") = some true)
    : ∃ fd : FuncData, (∀ (s : Shared) (v : Value), BindsTo s fd ⟨[v], []⟩ [("script", v)]) ∧ ∀ base : Heap, K.In base → base.Ns mainGlobals mg → FnOk P w K mg base (L2N.CX P w) 4 fa fd ["script"] (spX K phi_law) := by
  have e := hfa.symm.trans (PySem.W.mg_of X G a17)
  cases e
  refine ⟨PySem.W.fnOf "law" "law" (defArgs s_law) (defBody s_law) (defScope s_law) .none kV17 dc17 pm17 an17 cd17 ct17, fun s v => .of_eq rfl, fun base _ _ => ?_⟩
  have g : Bl (Md.mg ⟨P, w, K, mg, base⟩) := ⟨PySem.W.mg_none_of X G z0, PySem.W.mg_none_of X G z1, PySem.W.mg_none_of X G z2, PySem.W.mg_none_of X G z3, PySem.W.mg_none_of X G z4, PySem.W.mg_none_of X G z5, PySem.W.mg_none_of X G z6, PySem.W.mg_none_of X G z7, PySem.W.mg_none_of X G z8, PySem.W.mg_none_of X G z9, PySem.W.mg_none_of X G z10, PySem.W.mg_none_of X G z11, PySem.W.mg_none_of X G z12⟩
  have E : Ex ⟨P, w, K, mg, base⟩ TE NT NL ND OV NX := ⟨PySem.W.mg_of X G mTE, PySem.W.mg_of X G mNT, PySem.W.mg_of X G mNL, PySem.W.mg_of X G mND, PySem.W.mg_of X G mOV, PySem.W.mg_of X G mNX, ⟨PySem.W.mg_of X G mNT, xeNT, xkNT, xsNT, xtNT⟩, ⟨y0NT, y1NT, xsNT, y3NT, y4NT, y5NT, y6NT, y7NT⟩, PySem.W.exm_ref sTE hdTE htTE yeNT, kit_self, kit_own qNLNT hdNL htNL neNLNT, kit_own qNDNT hdND htND neNDNT, kit_own qOVNT hdOV htOV neOVNT, kit_own qNXNT hdNX htNX neNXNT, kit_bi (by decide +kernel) qvNT⟩
  have F0 := fun_mk (st := s__law_cell) l0 c0 k0
  have b0 := F0.binds (ps := ["script", "k"]) fun _ _ _ _ _ _ us hl => match us, hl with | [_, _], _ => rfl
  have G_law_cell := ok__law_cell (M := ⟨P, w, K, mg, base⟩) g   F0 (PySem.W.mg_of X G a0) b0
  have F1 := fun_mk (st := s__law_mix) l1 c1 k1
  have b1 := F1.binds (ps := ["cell", "prime", "many"]) fun _ _ _ _ _ _ us hl => match us, hl with | [_, _, _], _ => rfl
  have G_law_mix := ok__law_mix (M := ⟨P, w, K, mg, base⟩) g   F1 (PySem.W.mg_of X G a1) b1
  have F2 := fun_mk (st := s__law_tag) l2 c2 k2
  have b2 := F2.binds (ps := ["place", "long"]) fun _ _ _ _ _ _ us hl => match us, hl with | [_, _], _ => rfl
  have G_law_tag := ok__law_tag (M := ⟨P, w, K, mg, base⟩) g   F2 (PySem.W.mg_of X G a2) b2
  have F3 := fun_mk (st := s__law_two) l3 c3 k3
  have b3 := F3.binds (ps := ["long"]) fun _ _ _ _ _ _ us hl => match us, hl with | [_], _ => rfl
  have G_law_two := ok__law_two (M := ⟨P, w, K, mg, base⟩) g   F3 (PySem.W.mg_of X G a3) b3
  have F4 := fun_mk (st := s__law_long) l4 c4 k4
  have b4 := F4.binds (ps := ["cell"]) fun _ _ _ _ _ _ us hl => match us, hl with | [_], _ => rfl
  have G_law_long := ok__law_long (M := ⟨P, w, K, mg, base⟩) g  G_law_mix F4 (PySem.W.mg_of X G a4) b4
  have F5 := fun_mk (st := s__law_lot) l5 c5 k5
  have b5 := F5.binds (ps := ["cell", "long", "most"]) fun _ _ _ _ _ _ us hl => match us, hl with | [_, _, _], _ => rfl
  have G_law_lot := ok__law_lot (M := ⟨P, w, K, mg, base⟩) g  G_law_two G_law_mix G_law_tag F5 (PySem.W.mg_of X G a5) b5
  have F6 := fun_mk (st := s_among) l6 c6 k6
  have b6 := F6.binds (ps := ["lot", "beginning"]) fun _ _ _ _ _ _ us hl => match us, hl with | [_, _], _ => rfl
  have Gamong := ok_among (M := ⟨P, w, K, mg, base⟩) g   F6 (PySem.W.mg_of X G a6) b6
  have F7 := fun_mk (st := s__law_among) l7 c7 k7
  have b7 := F7.binds (ps := ["lot", "ahead"]) fun _ _ _ _ _ _ us hl => match us, hl with | [_, _], _ => rfl
  have G_law_among := ok__law_among (M := ⟨P, w, K, mg, base⟩) g   F7 (PySem.W.mg_of X G a7) b7
  have F8 := fun_mk (st := s_blurred) l8 c8 k8
  have b8 := F8.binds (ps := ["signs"]) fun _ _ _ _ _ _ us hl => match us, hl with | [_], _ => rfl
  have Gblurred := ok_blurred (M := ⟨P, w, K, mg, base⟩) g   F8 (PySem.W.mg_of X G a8) b8
  have F9 := fun_mk (st := s_heard) l9 c9 k9
  have b9 := F9.binds (ps := ["lot", "beginning"]) fun _ _ _ _ _ _ us hl => match us, hl with | [_, _], _ => rfl
  have Gheard := ok_heard (M := ⟨P, w, K, mg, base⟩) g  Gamong Gblurred F9 (PySem.W.mg_of X G a9) b9
  have F10 := fun_mk (st := s_number) l10 c10 k10
  have b10 := F10.binds (ps := ["tag"]) fun _ _ _ _ _ _ us hl => match us, hl with | [_], _ => rfl
  have Gnumber := ok_number (M := ⟨P, w, K, mg, base⟩) g   F10 (PySem.W.mg_of X G a10) b10
  have F11 := fun_mk (st := s_power) l11 c11 k11
  have b11 := F11.binds (ps := ["base", "many"]) fun _ _ _ _ _ _ us hl => match us, hl with | [_, _], _ => rfl
  have Gpower := ok_power (M := ⟨P, w, K, mg, base⟩) g   F11 (PySem.W.mg_of X G a11) b11
  have F12 := fun_mk (st := s_tag_of) l12 c12 k12
  have b12 := F12.binds (ps := ["long", "place"]) fun _ _ _ _ _ _ us hl => match us, hl with | [_, _], _ => rfl
  have Gtag_of := ok_tag_of (M := ⟨P, w, K, mg, base⟩) g E.x_NT Gpower F12 (PySem.W.mg_of X G a12) b12
  have F13 := fun_mk (st := s__law_sound) l13 c13 k13
  have b13 := F13.binds (ps := ["lot", "ahead"]) fun _ _ _ _ _ _ us hl => match us, hl with | [_, _], _ => rfl
  have G_law_sound := ok__law_sound (M := ⟨P, w, K, mg, base⟩) g  G_law_among F13 (PySem.W.mg_of X G a13) b13
  have F14 := fun_mk (st := s__law_same) l14 c14 k14
  have b14 := F14.binds (ps := ["found", "due"]) fun _ _ _ _ _ _ us hl => match us, hl with | [_, _], _ => rfl
  have G_law_same := ok__law_same (M := ⟨P, w, K, mg, base⟩) g   F14 (PySem.W.mg_of X G a14) b14
  have F15 := fun_mk (st := s__law_word) l15 c15 k15
  have b15 := F15.binds (ps := ["what"]) fun _ _ _ _ _ _ us hl => match us, hl with | [_], _ => rfl
  have G_law_word := ok__law_word (M := ⟨P, w, K, mg, base⟩) g E  F15 (PySem.W.mg_of X G a15) b15
  have F16 := fun_mk (st := s__law_said) l16 c16 k16
  have b16 := F16.binds (ps := ["long", "place"]) fun _ _ _ _ _ _ us hl => match us, hl with | [_, _], _ => rfl
  have G_law_said := ok__law_said (M := ⟨P, w, K, mg, base⟩) g E Gtag_of G_law_word  F16 (PySem.W.mg_of X G a16) b16
  exact ok_law (M := ⟨P, w, K, mg, base⟩) g G_law_same G_law_cell G_law_long G_law_lot G_law_tag G_law_mix G_law_two G_law_among G_law_sound Gamong Gheard Gnumber G_law_said (fun_mk (st := s_law) l17 c17 k17)
end K
open PySem PySem.W PyProof.Rows
set_option maxRecDepth 100000 in
set_option maxHeartbeats 0 in
theorem PySem.Challenge.cw_tagasks_k02_heard_holds : PySem.Challenge.rw_tagasks_k02_heard.Holds := by
  w_on; o_law; k_head; (case hw => w_witness2)
  k_fill
  refine L2.walk_of (l := PySem.Challenge.rw_tagasks_k02_heard) (n := 63) (k := 4) (x := "script") (CX := fun w => L2N.CX (PySem.Challenge.rw_tagasks_k02_heard).prog w) (sp := fun w => Dl.spX _ K.phi_law) rfl (by decide) rfl ⟨rfl, by decide, by decide⟩ (fun w h Y => PySem.W.kIn_of Y) ?F (fun _ _ a ns hl _ hS => Dl.sp_script hS (K.i_law hl)) (fun _ _ _ _ _ h => Dl.cx_no h)
  case F =>
    intro w mg fa h KX G hmg
    refine' K.all_mk KX G hmg ?a0 ?l0 ?c0 ?k0 ?a1 ?l1 ?c1 ?k1 ?a2 ?l2 ?c2 ?k2 ?a3 ?l3 ?c3 ?k3 ?a4 ?l4 ?c4 ?k4 ?a5 ?l5 ?c5 ?k5 ?a6 ?l6 ?c6 ?k6 ?a7 ?l7 ?c7 ?k7 ?a8 ?l8 ?c8 ?k8 ?a9 ?l9 ?c9 ?k9 ?a10 ?l10 ?c10 ?k10 ?a11 ?l11 ?c11 ?k11 ?a12 ?l12 ?c12 ?k12 ?a13 ?l13 ?c13 ?k13 ?a14 ?l14 ?c14 ?k14 ?a15 ?l15 ?c15 ?k15 ?a16 ?l16 ?c16 ?k16 ?a17 ?l17 ?c17 ?k17 ?z0 ?z1 ?z2 ?z3 ?z4 ?z5 ?z6 ?z7 ?z8 ?z9 ?z10 ?z11 ?z12 ?mTE ?hdTE ?htTE ?mNT ?hdNT ?htNT ?mNL ?hdNL ?htNL ?mND ?hdND ?htND ?mOV ?hdOV ?htOV ?mNX ?hdNX ?htNX ?sTE ?xeNT ?xkNT ?xsNT ?xtNT ?y0NT ?y1NT ?y3NT ?y4NT ?y5NT ?y6NT ?y7NT ?yeNT ?qNLNT ?neNLNT ?qNDNT ?neNDNT ?qOVNT ?neOVNT ?qNXNT ?neNXNT ?qvNT
    (case a0 => k_is); (case l0 => k_is); (case c0 => k_is); (case k0 => k_is); (case a1 => k_is); (case l1 => k_is); (case c1 => k_is); (case k1 => k_is); (case a2 => k_is); (case l2 => k_is); (case c2 => k_is); (case k2 => k_is); (case a3 => k_is); (case l3 => k_is); (case c3 => k_is); (case k3 => k_is); (case a4 => k_is); (case l4 => k_is); (case c4 => k_is); (case k4 => k_is); (case a5 => k_is); (case l5 => k_is); (case c5 => k_is); (case k5 => k_is); (case a6 => k_is); (case l6 => k_is); (case c6 => k_is); (case k6 => k_is); (case a7 => k_is); (case l7 => k_is); (case c7 => k_is); (case k7 => k_is); (case a8 => k_is); (case l8 => k_is); (case c8 => k_is); (case k8 => k_is); (case a9 => k_is); (case l9 => k_is); (case c9 => k_is); (case k9 => k_is); (case a10 => k_is); (case l10 => k_is); (case c10 => k_is); (case k10 => k_is); (case a11 => k_is); (case l11 => k_is); (case c11 => k_is); (case k11 => k_is); (case a12 => k_is); (case l12 => k_is); (case c12 => k_is); (case k12 => k_is); (case a13 => k_is); (case l13 => k_is); (case c13 => k_is); (case k13 => k_is); (case a14 => k_is); (case l14 => k_is); (case c14 => k_is); (case k14 => k_is); (case a15 => k_is); (case l15 => k_is); (case c15 => k_is); (case k15 => k_is); (case a16 => k_is); (case l16 => k_is); (case c16 => k_is); (case k16 => k_is); (case a17 => k_is); (case l17 => k_is); (case c17 => k_is); (case k17 => k_is); (case z0 => k_is); (case z1 => k_is); (case z2 => k_is); (case z3 => k_is); (case z4 => k_is); (case z5 => k_is); (case z6 => k_is); (case z7 => k_is); (case z8 => k_is); (case z9 => k_is); (case z10 => k_is); (case z11 => k_is); (case z12 => k_is); (case mTE => k_is); (case hdTE => k_is); (case htTE => k_is); (case mNT => k_is); (case hdNT => k_is); (case htNT => k_is); (case mNL => k_is); (case hdNL => k_is); (case htNL => k_is); (case mND => k_is); (case hdND => k_is); (case htND => k_is); (case mOV => k_is); (case hdOV => k_is); (case htOV => k_is); (case mNX => k_is); (case hdNX => k_is); (case htNX => k_is); (case sTE => k_is); (case xeNT => k_exc); (case xkNT => k_is); (case xsNT => k_is); (case xtNT => k_is); (case y0NT => k_is); (case y1NT => k_is); (case y3NT => k_is); (case y4NT => k_is); (case y5NT => k_is); (case y6NT => k_is); (case y7NT => k_is); (case yeNT => k_is); (case qNLNT => k_is); (case neNLNT => decide); (case qNDNT => k_is); (case neNDNT => decide); (case qOVNT => k_is); (case neOVNT => decide); (case qNXNT => k_is); (case neNXNT => decide); (case qvNT => k_is)
