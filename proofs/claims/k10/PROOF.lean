import PyProof.Rows.All
import Wide.All
import OpenK.AllK
import Wide.FinOn
import HandS.ForMost
import HandS.Exc
import HandS.Evl
import HandS.Wide
import HandS.Style
import HandS.WordsExc
import PySem.Challenge.RW_tagasks_k10_whole_chances
set_option Elab.async false
set_option linter.all false
set_option maxRecDepth 100000
set_option maxHeartbeats 2000000
set_option exponentiation.threshold 100000
namespace Dl
open PySem PySem.Spec PyProof.Rows L2

/-! ### data in a heap -/
mutual
theorem dp_mono {K : PySem.W.Frag} {B B' : Hp} (e : Same B B') : ∀ {v : V} {d : PyData}, Dp K B v d → Dp K B' v d
  | _, _, .non => .non
  | _, _, .bl b => .bl b
  | _, _, .int i => .int i
  | _, _, .str x => .str x
  | _, _, .lst h a => .lst (e.seq h) (dpa_mono e a)
  | _, _, .tup h a => .tup (Evl.ex_t e h) (dpa_mono e a)
theorem dpa_mono {K : PySem.W.Frag} {B B' : Hp} (e : Same B B') : ∀ {vs : List V} {ds : List PyData}, DpAll K B vs ds → DpAll K B' vs ds
  | _, _, .nil => .nil
  | _, _, .cons h t => .cons (dp_mono e h) (dpa_mono e t)
end
theorem dpa_len {K : PySem.W.Frag} {B : Hp} : ∀ {vs : List V} {ds : List PyData}, DpAll K B vs ds → vs.length = ds.length
  | _, _, .nil => rfl
  | _, _, .cons _ t => by rw [List.length_cons, List.length_cons, dpa_len t]
theorem dpa_get {K : PySem.W.Frag} {B : Hp} : ∀ {vs : List V} {ds : List PyData}, DpAll K B vs ds → ∀ (i : Nat) (v : V), vs[i]? = some v → ∃ d, ds[i]? = some d ∧ Dp K B v d
  | _, _, .nil, i, v, h => by simp at h
  | _, _, .cons h t, 0, v, e => by
    simp at e
    subst e
    exact ⟨_, rfl, h⟩
  | _, _, .cons h t, i + 1, v, e => by
    obtain ⟨d, a, b⟩ := dpa_get t i v (by simpa using e)
    exact ⟨d, by simpa using a, b⟩
theorem dpa_getd {K : PySem.W.Frag} {B : Hp} : ∀ {vs : List V} {ds : List PyData}, DpAll K B vs ds → ∀ (i : Nat) (d : PyData), ds[i]? = some d → ∃ v, vs[i]? = some v ∧ Dp K B v d
  | _, _, .nil, i, v, h => by simp at h
  | _, _, .cons h t, 0, v, e => by
    simp at e
    subst e
    exact ⟨_, rfl, h⟩
  | _, _, .cons h t, i + 1, v, e => by
    obtain ⟨d, a, b⟩ := dpa_getd t i v (by simpa using e)
    exact ⟨d, by simpa using a, b⟩
theorem dpa_app {K : PySem.W.Frag} {B : Hp} : ∀ {vs ws : List V} {ds es : List PyData}, DpAll K B vs ds → DpAll K B ws es → DpAll K B (vs ++ ws) (ds ++ es)
  | _, _, _, _, .nil, s => s
  | _, _, _, _, .cons h t, s => .cons h (dpa_app t s)
theorem dpa_take {K : PySem.W.Frag} {B : Hp} : ∀ {vs : List V} {ds : List PyData} (n : Nat), DpAll K B vs ds → DpAll K B (vs.take n) (ds.take n)
  | _, _, 0, _ => .nil
  | _, _, _ + 1, .nil => .nil
  | _, _, n + 1, .cons h t => .cons h (dpa_take n t)
theorem dpa_drop {K : PySem.W.Frag} {B : Hp} : ∀ {vs : List V} {ds : List PyData} (n : Nat), DpAll K B vs ds → DpAll K B (vs.drop n) (ds.drop n)
  | _, _, 0, h => h
  | _, _, _ + 1, .nil => .nil
  | _, _, n + 1, .cons h t => dpa_drop n t
theorem dpa_set {K : PySem.W.Frag} {B : Hp} {v : V} {d : PyData} (h : Dp K B v d) : ∀ {vs : List V} {ds : List PyData} (n : Nat), DpAll K B vs ds → DpAll K B (vs.set n v) (ds.set n d)
  | _, _, _, .nil => .nil
  | _, _, 0, .cons _ t => .cons h t
  | _, _, n + 1, .cons q t => .cons q (dpa_set h n t)
theorem dpa_rev {K : PySem.W.Frag} {B : Hp} : ∀ {vs : List V} {ds : List PyData}, DpAll K B vs ds → DpAll K B vs.reverse ds.reverse
  | _, _, .nil => .nil
  | _, _, .cons h t => by
    rw [List.reverse_cons, List.reverse_cons]
    exact dpa_app (dpa_rev t) (.cons h .nil)

/-! ### slots -/
inductive Fd where
  | v (d : PyData)
  | ol (ds : List PyData)
inductive Sl where
  | no
  | v (d : PyData)
  | r (x : V)
  | ol (ds : List PyData)
  | od (kvs : List (Key × PyData))
  | ot (kvs : List (List Key × PyData))
  | ob (C : Addr) (fs : List (Str × Fd))
abbrev Own := Addr → Option (Nat × Option Str)
def KDp {κ : Type} (K : PySem.W.Frag) (B : Hp) : List (κ × V) → List (κ × PyData) → Prop := Paired fun p q => p.1 = q.1 ∧ Dp K B p.2 q.2
def FdH (K : PySem.W.Frag) (B H : Hp) (O : Own) (i : Nat) (f : Str) (y : V) : Fd → Prop
  | .v d => Dp K B y d
  | .ol ds => ∃ l xs, y = .ref l ∧ O l = some (i, some f) ∧ H l = some (.lst xs) ∧ DpAll K B xs ds
def Hold (K : PySem.W.Frag) (B H : Hp) (O : Own) (i : Nat) (x : V) : Sl → Prop
  | .no => True
  | .v d => Dp K B x d
  | .r y => x = y
  | .ol ds => ∃ l xs, x = .ref l ∧ O l = some (i, none) ∧ H l = some (.lst xs) ∧ DpAll K B xs ds
  | .od kvs => ∃ l ys, x = .ref l ∧ O l = some (i, none) ∧ H l = some (.dK ys) ∧ KDp K B ys kvs
  | .ot kvs => ∃ l ys, x = .ref l ∧ O l = some (i, none) ∧ H l = some (.dT ys) ∧ KDp K B ys kvs
  | .ob C fs => ∃ a dx gs, x = .ref a ∧ O a = some (i, none) ∧ O dx = some (i, some ("__dict__" : Str)) ∧ H a = some (.ins C dx gs) ∧ H dx = some (.own a) ∧ gs.length < 1000 ∧
      Paired (fun (p : Str × V) (q : Str × Fd) => p.1 = q.1 ∧ FdH K B H O i p.1 p.2 q.2) gs fs
theorem kdp_mono {κ : Type} {K : PySem.W.Frag} {B B' : Hp} (e : Same B B') {ys : List (κ × V)} {kvs : List (κ × PyData)} (h : KDp K B ys kvs) : KDp K B' ys kvs :=
  Paired.mapP h fun _ _ z => ⟨z.1, dp_mono e z.2⟩
theorem fdh_mono {K : PySem.W.Frag} {B B' H H' : Hp} {O O' : Own} {i : Nat} {f : Str} {y : V} {d : Fd} (e : Same B B') (hO : ∀ a, O a = some (i, some f) → O' a = some (i, some f) ∧ H' a = H a) (h : FdH K B H O i f y d) : FdH K B' H' O' i f y d := by
  cases d with
  | v d => exact dp_mono e h
  | ol ds =>
    obtain ⟨l, xs, e1, e2, e3, e4⟩ := h
    exact ⟨l, xs, e1, (hO l e2).1, by rw [(hO l e2).2]; exact e3, dpa_mono e e4⟩
theorem hold_mono {K : PySem.W.Frag} {B B' H H' : Hp} {O O' : Own} {i : Nat} {x : V} {s : Sl} (e : Same B B') (hO : ∀ a t, O a = some (i, t) → O' a = some (i, t) ∧ H' a = H a) (h : Hold K B H O i x s) : Hold K B' H' O' i x s := by
  cases s with
  | no => trivial
  | v d => exact dp_mono e h
  | r y => exact h
  | ol ds =>
    obtain ⟨l, xs, e1, e2, e3, e4⟩ := h
    exact ⟨l, xs, e1, (hO l _ e2).1, by rw [(hO l _ e2).2]; exact e3, dpa_mono e e4⟩
  | od ds =>
    obtain ⟨l, xs, e1, e2, e3, e4⟩ := h
    exact ⟨l, xs, e1, (hO l _ e2).1, by rw [(hO l _ e2).2]; exact e3, kdp_mono e e4⟩
  | ot ds =>
    obtain ⟨l, xs, e1, e2, e3, e4⟩ := h
    exact ⟨l, xs, e1, (hO l _ e2).1, by rw [(hO l _ e2).2]; exact e3, kdp_mono e e4⟩
  | ob C fs =>
    obtain ⟨a, dx, gs, e1, e2, e3, e4, e5, e6, e7⟩ := h
    refine ⟨a, dx, gs, e1, (hO a _ e2).1, (hO dx _ e3).1, by rw [(hO a _ e2).2]; exact e4, by rw [(hO dx _ e3).2]; exact e5, e6, ?_⟩
    exact Paired.mapP e7 fun p q z => ⟨z.1, fdh_mono e (fun b hb => hO b _ hb) z.2⟩

/-- B: what is shared and stays; F: what else stays; the slots own the rest -/
structure EnvB (K : PySem.W.Frag) (B F H : Hp) (σ : L2.St) (ρ : List Sl) : Prop where
  ln : σ.length = ρ.length
  bh : Same B H
  fh : Same F H
  dj : ∀ a o, F a = some o → B a = none
  own : ∃ O : Own, (∀ a t, O a = some t → B a = none ∧ F a = none ∧ H a ≠ none) ∧ ∀ i s, ρ[i]? = some s → s = .no ∨ ∃ x, σ[i]? = some (some x) ∧ Hold K B H O i x s

theorem same_upd {H : Hp} {p : Addr} {o : HO} (h : H p = none) : Same H (upd H p o) := fun b x e => by
  rw [upd_ne (ne_of_none e h)]
  exact e
theorem same_upd2 {B H : Hp} {p : Addr} {o : HO} (h : Same B H) : Same (upd B p o) (upd H p o) := fun b x e => by
  by_cases hb : b = p
  · subst hb
    rw [upd_same] at e ⊢
    exact e
  · rw [upd_ne hb] at e ⊢
    exact h b x e
/-- a new object that is shared -/
theorem EnvB.new {K : PySem.W.Frag} {B F H : Hp} {σ : L2.St} {ρ : List Sl} (I : EnvB K B F H σ ρ) {p : Addr} {o : HO} (h : H p = none) : Same B (upd B p o) ∧ EnvB K (upd B p o) F (upd H p o) σ ρ := by
  have hb : B p = none := I.bh.free h
  refine ⟨same_upd hb, I.ln, same_upd2 I.bh, I.fh.trans (same_upd h), fun a u e => ?_, ?_⟩
  · have hn : a ≠ p := ne_of_none (I.fh a u e) h
    rw [upd_ne hn]
    exact I.dj a u e
  · obtain ⟨O, h1, h2⟩ := I.own
    have hp : ∀ a t, O a = some t → a ≠ p := fun a t e z => (h1 a t e).2.2 (by rw [z]; exact h)
    refine ⟨O, fun a t e => ?_, fun i s hs => ?_⟩
    · obtain ⟨q1, q2, q3⟩ := h1 a t e
      rw [upd_ne (hp a t e), upd_ne (hp a t e)]
      exact ⟨q1, q2, q3⟩
    · rcases h2 i s hs with z | ⟨x, hx, hh⟩
      · exact .inl z
      · exact .inr ⟨x, hx, hold_mono (same_upd hb) (fun a t e => ⟨e, upd_ne (hp a _ e)⟩) hh⟩
/-- a new object that is not shared: it goes to the frame -/
theorem EnvB.lay {K : PySem.W.Frag} {B F H : Hp} {σ : L2.St} {ρ : List Sl} (I : EnvB K B F H σ ρ) {p : Addr} {o : HO} (h : H p = none) : EnvB K B (upd F p o) (upd H p o) σ ρ := by
  have hb : B p = none := I.bh.free h
  refine ⟨I.ln, I.bh.trans (same_upd h), same_upd2 I.fh, fun a u e => ?_, ?_⟩
  · by_cases ha : a = p
    · rw [ha]; exact hb
    · rw [upd_ne ha] at e
      exact I.dj a u e
  · obtain ⟨O, h1, h2⟩ := I.own
    have hp : ∀ a t, O a = some t → a ≠ p := fun a t e z => (h1 a t e).2.2 (by rw [z]; exact h)
    refine ⟨O, fun a t e => ?_, fun i s hs => ?_⟩
    · obtain ⟨q1, q2, q3⟩ := h1 a t e
      rw [upd_ne (hp a t e), upd_ne (hp a t e)]
      exact ⟨q1, q2, q3⟩
    · rcases h2 i s hs with z | ⟨x, hx, hh⟩
      · exact .inl z
      · exact .inr ⟨x, hx, hold_mono (Same.refl B) (fun a t e => ⟨e, upd_ne (hp a _ e)⟩) hh⟩
/-- what the frame holds at p changes -/
theorem EnvB.relay {K : PySem.W.Frag} {B F H : Hp} {σ : L2.St} {ρ : List Sl} {p : Addr} {o o' : HO} (I : EnvB K B F H σ ρ) (h : F p = some o) : EnvB K B (upd F p o') (upd H p o') σ ρ := by
  have hb : B p = none := I.dj p o h
  refine ⟨I.ln, fun a u e => ?_, same_upd2 I.fh, fun a u e => ?_, ?_⟩
  · rw [upd_ne (ne_of_none e hb)]
    exact I.bh a u e
  · by_cases ha : a = p
    · rw [ha]; exact hb
    · rw [upd_ne ha] at e
      exact I.dj a u e
  · obtain ⟨O, h1, h2⟩ := I.own
    have hp : ∀ a t, O a = some t → a ≠ p := fun a t e z => by
      have q := (h1 a t e).2.1
      rw [z, h] at q
      cases q
    refine ⟨O, fun a t e => ?_, fun i s hs => ?_⟩
    · obtain ⟨q1, q2, q3⟩ := h1 a t e
      rw [upd_ne (hp a t e), upd_ne (hp a t e)]
      exact ⟨q1, q2, q3⟩
    · rcases h2 i s hs with z | ⟨x, hx, hh⟩
      · exact .inl z
      · exact .inr ⟨x, hx, hold_mono (Same.refl B) (fun a t e => ⟨e, upd_ne (hp a _ e)⟩) hh⟩
/-- the frame's p becomes shared -/
theorem EnvB.share {K : PySem.W.Frag} {B F H : Hp} {σ : L2.St} {ρ : List Sl} {p : Addr} {o : HO} (I : EnvB K B (upd F p o) H σ ρ) (h : F p = none) : Same B (upd B p o) ∧ EnvB K (upd B p o) F H σ ρ := by
  have hp : H p = some o := I.fh p o upd_same
  have hb : B p = none := I.dj p o upd_same
  have sb : Same B (upd B p o) := same_upd hb
  have sf : Same F (upd F p o) := same_upd h
  refine ⟨sb, I.ln, fun a u e => ?_, sf.trans I.fh, fun a u e => ?_, ?_⟩
  · by_cases ha : a = p
    · rw [ha, upd_same] at e
      rw [ha, hp]; exact e
    · rw [upd_ne ha] at e
      exact I.bh a u e
  · rw [upd_ne (ne_of_none e h)]
    exact I.dj a u (sf a u e)
  · obtain ⟨O, h1, h2⟩ := I.own
    have hq : ∀ a t, O a = some t → a ≠ p := fun a t e z => by
      have q := (h1 a t e).2.1
      rw [z, upd_same] at q
      cases q
    refine ⟨O, fun a t e => ?_, fun i s hs => ?_⟩
    · obtain ⟨q1, q2, q3⟩ := h1 a t e
      rw [upd_ne (hq a t e)] at q2 ⊢
      exact ⟨q1, q2, q3⟩
    · rcases h2 i s hs with z | ⟨x, hx, hh⟩
      · exact .inl z
      · exact .inr ⟨x, hx, hold_mono sb (fun a t e => ⟨e, rfl⟩) hh⟩
/-- a slot gets a shared value -/
theorem EnvB.setv {K : PySem.W.Frag} {B F H : Hp} {σ : L2.St} {ρ : List Sl} (I : EnvB K B F H σ ρ) {x : V} {d : PyData} (i : Nat) (hi : i < ρ.length) (h : Dp K B x d) : EnvB K B F H (σ.set i (some x)) (ρ.set i (.v d)) := by
  have hi : i < σ.length := by rw [I.ln]; exact hi
  refine ⟨by rw [List.length_set, List.length_set, I.ln], I.bh, I.fh, I.dj, ?_⟩
  obtain ⟨O, h1, h2⟩ := I.own
  refine ⟨O, h1, fun j s hs => ?_⟩
  by_cases hj : i = j
  · subst hj
    by_cases hl : i < ρ.length
    · rw [List.getElem?_set_self hl] at hs
      cases hs
      exact .inr ⟨x, by rw [List.getElem?_set_self hi], h⟩
    · rw [List.getElem?_eq_none (by rw [List.length_set]; omega)] at hs
      cases hs
  · rw [List.getElem?_set_ne hj] at hs ⊢
    exact h2 j s hs
/-- a slot gets any value, of which nothing is kept -/
theorem EnvB.setno {K : PySem.W.Frag} {B F H : Hp} {σ : L2.St} {ρ : List Sl} (I : EnvB K B F H σ ρ) (i : Nat) (o : Option V) : EnvB K B F H (σ.set i o) (ρ.set i .no) := by
  refine ⟨by rw [List.length_set, List.length_set, I.ln], I.bh, I.fh, I.dj, ?_⟩
  obtain ⟨O, h1, h2⟩ := I.own
  refine ⟨O, h1, fun j s hs => ?_⟩
  by_cases hj : i = j
  · subst hj
    by_cases hl : i < ρ.length
    · rw [List.getElem?_set_self hl] at hs
      cases hs
      exact .inl rfl
    · rw [List.getElem?_eq_none (by rw [List.length_set]; omega)] at hs
      cases hs
  · rw [List.getElem?_set_ne hj] at hs ⊢
    exact h2 j s hs
/-- a slot gets a new list that it owns -/
theorem EnvB.setol {K : PySem.W.Frag} {B F H : Hp} {σ : L2.St} {ρ : List Sl} {p : Addr} {xs : List V} {ds : List PyData} (I : EnvB K B (upd F p (.lst xs)) H σ ρ) (h : F p = none) (hd : DpAll K B xs ds) (i : Nat) (hi : i < ρ.length) :
    EnvB K B F H (σ.set i (some (.ref p))) (ρ.set i (.ol ds)) := by
  have hp : H p = some (.lst xs) := I.fh p _ upd_same
  have hb : B p = none := I.dj p _ upd_same
  have sf : Same F (upd F p (.lst xs)) := same_upd h
  have hi : i < σ.length := by rw [I.ln]; exact hi
  refine ⟨by rw [List.length_set, List.length_set, I.ln], I.bh, sf.trans I.fh, fun a u e => I.dj a u (sf a u e), ?_⟩
  obtain ⟨O, h1, h2⟩ := I.own
  have hq : ∀ a t, O a = some t → a ≠ p := fun a t e z => by
    have q := (h1 a t e).2.1
    rw [z, upd_same] at q
    cases q
  refine ⟨fun a => if a = p then some (i, none) else if O a = some (i, none) then none else O a, fun a t e => ?_, fun j s hs => ?_⟩
  · by_cases ha : a = p
    · rw [ha]
      exact ⟨hb, h, by rw [hp]; simp⟩
    · dsimp only at e
      rw [if_neg ha] at e
      split at e
      · cases e
      · obtain ⟨q1, q2, q3⟩ := h1 a t e
        rw [upd_ne ha] at q2
        exact ⟨q1, q2, q3⟩
  · by_cases hj : i = j
    · subst hj
      by_cases hl : i < ρ.length
      · rw [List.getElem?_set_self hl] at hs
        cases hs
        exact .inr ⟨.ref p, by rw [List.getElem?_set_self hi], p, xs, rfl, if_pos rfl, hp, hd⟩
      · rw [List.getElem?_eq_none (by rw [List.length_set]; omega)] at hs
        cases hs
    · rw [List.getElem?_set_ne hj] at hs ⊢
      rcases h2 j s hs with z | ⟨x, hx, hh⟩
      · exact .inl z
      · refine .inr ⟨x, hx, hold_mono (Same.refl B) (fun a t e => ⟨?_, rfl⟩) hh⟩
        rw [if_neg (hq a _ e), if_neg (by rw [e]; intro z; injection z with z; injection z with z _; exact hj z.symm)]
        exact e
/-- the list that slot i owns changes -/
theorem EnvB.mutol {K : PySem.W.Frag} {B F H : Hp} {σ : L2.St} {ρ : List Sl} {i : Nat} {ds : List PyData} (I : EnvB K B F H σ ρ) (hi : ρ[i]? = some (.ol ds)) :
    ∃ l xs, σ[i]? = some (some (.ref l)) ∧ H l = some (.lst xs) ∧ DpAll K B xs ds ∧ ∀ xs' ds', DpAll K B xs' ds' → EnvB K B F (upd H l (.lst xs')) σ (ρ.set i (.ol ds')) := by
  obtain ⟨O, h1, h2⟩ := I.own
  rcases h2 i _ hi with z | ⟨x, hx, l, xs, e1, e2, e3, e4⟩
  · cases z
  · subst e1
    refine ⟨l, xs, hx, e3, e4, fun xs' ds' hd => ?_⟩
    obtain ⟨q1, q2, q3⟩ := h1 l _ e2
    refine ⟨by rw [List.length_set, I.ln], fun a u e => ?_, fun a u e => ?_, I.dj, O, fun a t e => ?_, fun j s hs => ?_⟩
    · rw [upd_ne (ne_of_none e q1)]; exact I.bh a u e
    · rw [upd_ne (ne_of_none e q2)]; exact I.fh a u e
    · refine ⟨(h1 a t e).1, (h1 a t e).2.1, ?_⟩
      by_cases ha : a = l
      · rw [ha, upd_same]; simp
      · rw [upd_ne ha]; exact (h1 a t e).2.2
    · by_cases hj : i = j
      · subst hj
        have hl : i < ρ.length := (List.getElem?_eq_some_iff.mp hi).1
        rw [List.getElem?_set_self hl] at hs
        cases hs
        exact .inr ⟨.ref l, hx, l, xs', rfl, e2, upd_same, hd⟩
      · rw [List.getElem?_set_ne hj] at hs
        rcases h2 j s hs with z | ⟨x, hx, hh⟩
        · exact .inl z
        · refine .inr ⟨x, hx, hold_mono (Same.refl B) (fun a t e => ⟨e, upd_ne fun z => ?_⟩) hh⟩
          subst z
          rw [e2] at e
          injection e with e
          injection e with e _
          exact hj e

/-! ### weaker slots -/
def Le1 (a b : Sl) : Prop := a = b ∨ a = .no
def Le (a b : List Sl) : Prop := a.length = b.length ∧ ∀ (i : Nat) (s : Sl), a[i]? = some s → s = Sl.no ∨ b[i]? = some s
theorem EnvB.le {K : PySem.W.Frag} {B F H : Hp} {σ : L2.St} {ρ ρ' : List Sl} (I : EnvB K B F H σ ρ) (h : Le ρ' ρ) : EnvB K B F H σ ρ' := by
  refine ⟨by rw [I.ln, h.1], I.bh, I.fh, I.dj, ?_⟩
  obtain ⟨O, h1, h2⟩ := I.own
  refine ⟨O, h1, fun i s hs => ?_⟩
  rcases h.2 i s hs with z | z
  · exact .inl z
  · exact h2 i s z
theorem Le.refl (a : List Sl) : Le a a := ⟨rfl, fun _ _ h => .inr h⟩
theorem le_nil : Le [] [] := Le.refl _
theorem le_same {x : Sl} {a b : List Sl} (h : Le a b) : Le (x :: a) (x :: b) := ⟨by rw [List.length_cons, List.length_cons, h.1], fun i s hs => match i, hs with
  | 0, hs => .inr hs
  | i + 1, hs => h.2 i s hs⟩
theorem le_drop {x : Sl} {a b : List Sl} (h : Le a b) : Le (.no :: a) (x :: b) := ⟨by rw [List.length_cons, List.length_cons, h.1], fun i s hs => match i, hs with
  | 0, hs => .inl (by simpa using hs.symm)
  | i + 1, hs => h.2 i s hs⟩
/-- an owned list is given up: it is shared from now on -/
theorem EnvB.freeze {K : PySem.W.Frag} {B F H : Hp} {σ : L2.St} {ρ : List Sl} {i : Nat} {ds : List PyData} (I : EnvB K B F H σ ρ) (hi : ρ[i]? = some (.ol ds)) : ∃ B', Same B B' ∧ EnvB K B' F H σ (ρ.set i (.v (.list ds))) := by
  obtain ⟨O, h1, h2⟩ := I.own
  rcases h2 i _ hi with z | ⟨x, hx, l, xs, e1, e2, e3, e4⟩
  · cases z
  · subst e1
    obtain ⟨q1, q2, q3⟩ := h1 l _ e2
    have sb : Same B (upd B l (.lst xs)) := same_upd q1
    refine ⟨upd B l (.lst xs), sb, by rw [List.length_set, I.ln], fun a u e => ?_, I.fh, fun a u e => ?_, fun a => if a = l then none else O a, fun a t e => ?_, fun j s hs => ?_⟩
    · by_cases ha : a = l
      · rw [ha, upd_same] at e
        rw [ha, e3]; exact e
      · rw [upd_ne ha] at e
        exact I.bh a u e
    · rw [upd_ne (ne_of_none e q2)]
      exact I.dj a u e
    · dsimp only at e
      split at e
      · cases e
      · rename_i ha
        rw [upd_ne ha]
        exact h1 a t e
    · by_cases hj : i = j
      · subst hj
        have hl : i < ρ.length := (List.getElem?_eq_some_iff.mp hi).1
        rw [List.getElem?_set_self hl] at hs
        cases hs
        exact .inr ⟨.ref l, hx, .lst (.inl (.inl upd_same)) (dpa_mono sb e4)⟩
      · rw [List.getElem?_set_ne hj] at hs
        rcases h2 j s hs with z | ⟨x, hx, hh⟩
        · exact .inl z
        · refine .inr ⟨x, hx, hold_mono sb (fun a t e => ⟨?_, rfl⟩) hh⟩
          rw [if_neg fun z => ?_]
          · exact e
          · subst z
            rw [e2] at e
            injection e with e
            injection e with e _
            exact hj e
end Dl

namespace Dl
open PySem PySem.Spec PyProof.Rows L2

/-! ### the semantic readings -/
def semE (X : Cx) (e : Expr) : TE := fun σ H Q => ∀ (pins : List (Addr × Obj)) (s : Shared), Inv X pins σ H s → wpAny (model X.prog X.w) X.A (eval e X.env) (EP X pins σ Q) X.xe s
def semT (X : Cx) (e : Expr) : TT := fun σ H Q => ∀ (pins : List (Addr × Obj)) (s : Shared), Inv X pins σ H s → wpAny (model X.prog X.w) X.A (isTrue e X.env (eval e X.env)) (TP X pins σ Q) X.xe s
def semW (X : Cx) (e : Expr) : TT := fun σ H Q => ∀ (whole : Sem Value) (pins : List (Addr × Obj)) (s : Shared), Inv X pins σ H s → wpAny (model X.prog X.w) X.A (isTrue e X.env whole) (TP X pins σ Q) X.xe s
def semA (X : Cx) (es : List Expr) : TA := fun σ H Q => ∀ (pos : Pos) (pins : List (Addr × Obj)) (s : Shared), Inv X pins σ H s → wpAny (model X.prog X.w) X.A (spliced (backTo pos (starEach es X.env))) (AP X pins σ Q) X.xe s
def semS (X : Cx) (st : Stmt) : TS := fun D σ H => ∀ (pins : List (Addr × Obj)) (s : Shared), Inv X pins σ H s → wpAny (model X.prog X.w) X.A (exec st X.env) (SP X pins D) X.xe s
def semB (X : Cx) (st : List Stmt) : TS := fun D σ H => ∀ (pins : List (Addr × Obj)) (s : Shared), Inv X pins σ H s → wpAny (model X.prog X.w) X.A (execs st X.env) (SP X pins D) X.xe s
def semI (X : Cx) (tg iter : Expr) : TI := fun σ H R => ∀ (pins : List (Addr × Obj)) (s : Shared), Inv X pins σ H s →
    wpAny (model X.prog X.w) X.A (eval iter X.env) (fun v s1 => wpAny (model X.prog X.w) X.A (pyIter v) (PIE X pins σ tg R) X.xe s1) X.xe s
theorem pe_sem {X : Cx} {e : Expr} : PE X e (semE X e) := ⟨fun pins s _ _ _ I h => h pins s I⟩
theorem pt_sem {X : Cx} {e : Expr} : PT X e (semT X e) := ⟨fun pins s _ _ _ I h => h pins s I⟩
theorem pw_sem {X : Cx} {e : Expr} : PW X e (semW X e) := ⟨fun wh pins s _ _ _ I h => h wh pins s I⟩
theorem pa_sem {X : Cx} {es : List Expr} : PA X es (semA X es) := ⟨fun pos pins s _ _ _ I h => h pos pins s I⟩
theorem ps_sem {X : Cx} {st : Stmt} : PS X st (semS X st) := ⟨fun pins s _ _ _ I h => h pins s I⟩
theorem pb_sem {X : Cx} {st : List Stmt} : PSs X st (semB X st) := ⟨fun pins s _ _ _ I h => h pins s I⟩
theorem pi_sem {X : Cx} {tg iter : Expr} : PI X tg iter (semI X tg iter) := ⟨fun pins s _ _ _ I h => h pins s I⟩

/-! ### where one stands -/
structure Md where
  P : Program
  w : World
  K : PySem.W.Frag
  mg : Str → Option Value
  base : Heap
structure Cv (M : Md) (N : List Str) (sc : Scope) (X : Cx) : Prop where
  eP : X.prog = M.P
  ew : X.w = M.w
  eK : X.K = M.K
  eg : X.mg = M.mg
  eb : X.base = M.base
  hN : X.N = N
  nd : N.Nodup
  hs : X.env.scope = sc
  kind : sc.kind = .function
  fn : ∀ x, sc.names.lookup x = some .cell → X.fn x = true
  un : X.A.units + 200 < cLine
structure Cn (M : Md) (k : Nat) (N : List Str) (sc : Scope) (X : Cx) (W : WX) : Prop extends Cv M N sc X where
  calm : X.calm = true
  room : Room k X.A
  tk : Takes X W
  po : PassesOwn (model X.prog X.w) X.A X.env X.xe
def visB (sc : Scope) (x : Str) : Bool := match sc.names.lookup x with
  | some .local => true
  | some .cell => true
  | some .free => true
  | _ => false
def locB (sc : Scope) (x : Str) : Bool := match sc.names.lookup x with
  | some .local => true
  | some .cell => true
  | _ => false
def glB (sc : Scope) (x : Str) : Bool := match sc.names.lookup x with
  | some .globalImplicit => true
  | _ => false
def okN (x : Str) : Bool := !(x == ("__debug__" : Str)) && !(x == ("__classdict__" : Str)) && !decide (x = ("__name__" : Str))
theorem okN1 {x : Str} (h : okN x = true) : (x == ("__debug__" : Str)) = false := by
  unfold okN at h
  rw [Bool.and_eq_true, Bool.and_eq_true] at h
  simpa using h.1.1
theorem okN2 {x : Str} (h : okN x = true) : (x == ("__classdict__" : Str)) = false := by
  unfold okN at h
  rw [Bool.and_eq_true, Bool.and_eq_true] at h
  simpa using h.1.2
theorem okN3 {x : Str} (h : okN x = true) : x ≠ ("__name__" : Str) := by
  unfold okN at h
  rw [Bool.and_eq_true, Bool.and_eq_true] at h
  simpa using h.2
theorem Cv.vis {M : Md} {N : List Str} {sc : Scope} {X : Cx} (c : Cv M N sc X) {x : Str} (h : visB sc x = true) : Vis X.env.scope x := by
  rw [c.hs]
  unfold visB at h
  split at h
  · exact .inl (by assumption)
  · exact .inr (.inl (by assumption))
  · exact .inr (.inr (by assumption))
  · cases h
theorem Cv.gl {M : Md} {N : List Str} {sc : Scope} {X : Cx} (c : Cv M N sc X) {x : Str} (h : glB sc x = true) : Gl X x := by
  show X.env.scope.names.lookup x = some .globalImplicit
  rw [c.hs]
  unfold glB at h
  split at h
  · assumption
  · cases h
theorem Cv.loc {M : Md} {N : List Str} {sc : Scope} {X : Cx} (c : Cv M N sc X) {x : Str} (h : locB sc x = true) : Loc X.env.scope x ∧ (X.fn x = true ∨ X.env.scope.names.lookup x = some .local) := by
  rw [c.hs]
  unfold locB at h
  split at h
  · exact ⟨.inl (by assumption), .inr (by assumption)⟩
  · exact ⟨.inr (by assumption), .inl (c.fn x (by assumption))⟩
  · cases h

/-! ### judgements -/
def DE (M : Md) (X : Cx) (e : Expr) (ρ : List Sl) (d : PyData) : Prop := ∀ B F σ H, EnvB M.K B F H σ ρ → ∀ Q : VK, (∀ v H' B', Same B B' → EnvB M.K B' F H' σ ρ → Dp M.K B' v d → Q v H') → semE X e σ H Q
def DT (M : Md) (X : Cx) (e : Expr) (ρ : List Sl) (b : Bool) : Prop := ∀ B F σ H, EnvB M.K B F H σ ρ → ∀ Q : Bool → Hp → Prop, (∀ H' B', Same B B' → EnvB M.K B' F H' σ ρ → Q b H') → semT X e σ H Q
def DW (M : Md) (X : Cx) (e : Expr) (ρ : List Sl) (b : Bool) : Prop := ∀ B F σ H, EnvB M.K B F H σ ρ → ∀ Q : Bool → Hp → Prop, (∀ H' B', Same B B' → EnvB M.K B' F H' σ ρ → Q b H') → semW X e σ H Q
def DA (M : Md) (X : Cx) (es : List Expr) (ρ : List Sl) (ds : List PyData) : Prop := ∀ B F σ H, EnvB M.K B F H σ ρ → ∀ Q : List V → Hp → Prop, (∀ vs H' B', Same B B' → EnvB M.K B' F H' σ ρ → DpAll M.K B' vs ds → Q vs H') → semA X es σ H Q
/-- a new list, not shared yet -/
def DN (M : Md) (X : Cx) (e : Expr) (ρ : List Sl) (ds : List PyData) : Prop := ∀ B F σ H, EnvB M.K B F H σ ρ → ∀ Q : VK, (∀ p xs H' B', Same B B' → F p = none → EnvB M.K B' (upd F p (.lst xs)) H' σ ρ → DpAll M.K B' xs ds → Q (.ref p) H') → semE X e σ H Q
structure REnds where
  rt : PyData → List Sl → Prop
  ex : Addr → Prop := fun _ => False
  bk : List Sl → Prop := fun _ => False
  ct : List Sl → Prop := fun _ => False
structure Fits (M : Md) (W : WX) (nx : List Sl → Prop) (R : REnds) (B F : Hp) (E : Ends) : Prop where
  nx : ∀ ρ σ H B', nx ρ → Same B B' → EnvB M.K B' F H σ ρ → E.nx σ H
  rt : ∀ d ρ x σ H B', R.rt d ρ → Same B B' → EnvB M.K B' F H σ ρ → Dp M.K B' x d → E.rt x H
  ex : ∀ C ρ σ H B', R.ex C → Same B B' → EnvB M.K B' F H σ ρ → W (.ref C) none σ H
  bk : ∀ ρ σ H B', R.bk ρ → Same B B' → EnvB M.K B' F H σ ρ → E.bk σ H
  ct : ∀ ρ σ H B', R.ct ρ → Same B B' → EnvB M.K B' F H σ ρ → E.ct σ H
theorem Fits.mono {M : Md} {W : WX} {nx : List Sl → Prop} {R : REnds} {B B1 F : Hp} {E : Ends} (f : Fits M W nx R B F E) (s : Same B B1) : Fits M W nx R B1 F E :=
  ⟨fun ρ σ H B' h t I => f.nx ρ σ H B' h (s.trans t) I, fun d ρ x σ H B' h t I p => f.rt d ρ x σ H B' h (s.trans t) I p, fun C ρ σ H B' h t I => f.ex C ρ σ H B' h (s.trans t) I, fun ρ σ H B' h t I => f.bk ρ σ H B' h (s.trans t) I, fun ρ σ H B' h t I => f.ct ρ σ H B' h (s.trans t) I⟩
def DS (M : Md) (X : Cx) (W : WX) (st : Stmt) (ρ : List Sl) (nx : List Sl → Prop) (R : REnds) : Prop := ∀ B F σ H, EnvB M.K B F H σ ρ → ∀ E : Ends, Fits M W nx R B F E → semS X st E σ H
def DB (M : Md) (X : Cx) (W : WX) (st : List Stmt) (ρ : List Sl) (nx : List Sl → Prop) (R : REnds) : Prop := ∀ B F σ H, EnvB M.K B F H σ ρ → ∀ E : Ends, Fits M W nx R B F E → semB X st E σ H

section
variable {M : Md} {X : Cx} {W : WX} {N : List Str} {sc : Scope} {k : Nat} {ρ : List Sl} {d d1 d2 d3 : PyData} {ds : List PyData} {e a b c' : Expr} {es : List Expr} {pos p2 : Pos} {x : Str} {bb b1 b2 : Bool} {i : Nat}
theorem de_of {t : TE} (h : PE X e t) (hv : ∀ B F σ H, EnvB M.K B F H σ ρ → ∀ Q : VK, (∀ v H' B', Same B B' → EnvB M.K B' F H' σ ρ → Dp M.K B' v d → Q v H') → t σ H Q) : DE M X e ρ d := fun B F σ H I Q q pins s iv => h.run pins s σ H Q iv (hv B F σ H I Q q)
theorem dn_of {t : TE} (h : PE X e t) (hv : ∀ B F σ H, EnvB M.K B F H σ ρ → ∀ Q : VK, (∀ p xs H' B', Same B B' → F p = none → EnvB M.K B' (upd F p (.lst xs)) H' σ ρ → DpAll M.K B' xs ds → Q (.ref p) H') → t σ H Q) : DN M X e ρ ds := fun B F σ H I Q q pins s iv => h.run pins s σ H Q iv (hv B F σ H I Q q)
theorem dt_of {t : TT} (h : PT X e t) (hv : ∀ B F σ H, EnvB M.K B F H σ ρ → ∀ Q : Bool → Hp → Prop, (∀ H' B', Same B B' → EnvB M.K B' F H' σ ρ → Q bb H') → t σ H Q) : DT M X e ρ bb := fun B F σ H I Q q pins s iv => h.run pins s σ H Q iv (hv B F σ H I Q q)
theorem dw_of {t : TT} (h : PW X e t) (hv : ∀ B F σ H, EnvB M.K B F H σ ρ → ∀ Q : Bool → Hp → Prop, (∀ H' B', Same B B' → EnvB M.K B' F H' σ ρ → Q bb H') → t σ H Q) : DW M X e ρ bb := fun B F σ H I Q q wh pins s iv => h.run wh pins s σ H Q iv (hv B F σ H I Q q)
theorem da_of {t : TA} (h : PA X es t) (hv : ∀ B F σ H, EnvB M.K B F H σ ρ → ∀ Q : List V → Hp → Prop, (∀ vs H' B', Same B B' → EnvB M.K B' F H' σ ρ → DpAll M.K B' vs ds → Q vs H') → t σ H Q) : DA M X es ρ ds := fun B F σ H I Q q pos pins s iv => h.run pos pins s σ H Q iv (hv B F σ H I Q q)
theorem ds_of {st : Stmt} {nx : List Sl → Prop} {R : REnds} {t : TS} (h : PS X st t) (hv : ∀ B F σ H, EnvB M.K B F H σ ρ → ∀ E : Ends, Fits M W nx R B F E → t E σ H) : DS M X W st ρ nx R := fun B F σ H I E q pins s iv => h.run pins s σ H E iv (hv B F σ H I E q)
theorem db_of {st : List Stmt} {nx : List Sl → Prop} {R : REnds} {t : TS} (h : PSs X st t) (hv : ∀ B F σ H, EnvB M.K B F H σ ρ → ∀ E : Ends, Fits M W nx R B F E → t E σ H) : DB M X W st ρ nx R := fun B F σ H I E q pins s iv => h.run pins s σ H E iv (hv B F σ H I E q)
theorem DE.eq (h : DE M X e ρ d1) (q : d1 = d) : DE M X e ρ d := q ▸ h
theorem DT.eq (h : DT M X e ρ b1) (q : b1 = bb) : DT M X e ρ bb := q ▸ h
/-- a new list is a list -/
theorem DN.de (h : DN M X e ρ ds) : DE M X e ρ (.list ds) := fun B F σ H I Q q => h B F σ H I Q fun p xs H' B' s hf I1 hd => by
  obtain ⟨s2, I2⟩ := I1.share hf
  exact q _ _ _ (s.trans s2) I2 (.lst (.inl (.inl upd_same)) (dpa_mono s2 hd))

/-! ### names, constants -/
theorem EnvB.get {K : PySem.W.Frag} {B F H : Hp} {σ : L2.St} (I : EnvB K B F H σ ρ) (h : ρ[i]? = some (.v d)) : ∃ v, σ[i]? = some (some v) ∧ Dp K B v d := by
  obtain ⟨O, _, h2⟩ := I.own
  rcases h2 i _ h with z | ⟨v, hv, hh⟩
  · cases z
  · exact ⟨v, hv, hh⟩
theorem de_var (c : Cv M N sc X) (i : Nat) (hi : N[i]? = some x) (hd : ρ[i]? = some (.v d)) (hv : (visB sc x && okN x) = true := by decide +kernel) : DE M X (.Name x pos) ρ d := by
  rw [Bool.and_eq_true] at hv
  refine de_of (pe_var (by rw [c.hN]; exact hi) (c.vis hv.1) (okN1 hv.2) (okN2 hv.2)) fun B F σ H I Q q => ?_
  obtain ⟨v, hv, hh⟩ := I.get hd
  exact ⟨v, hv, q v H B (Same.refl B) I hh⟩
theorem de_int {n : Int} {j} : DE M X (.Constant (.int n) j pos) ρ (.int n) := de_of pe_int fun B F σ H I Q q => q _ H B (Same.refl B) I (.int n)
theorem de_str {y : Str} {j} : DE M X (.Constant (.str y) j pos) ρ (.str y) := de_of pe_str fun B F σ H I Q q => q _ H B (Same.refl B) I (.str y)
theorem de_bl {y : Bool} {j} : DE M X (.Constant (.bool y) j pos) ρ (.bool y) := de_of pe_bl fun B F σ H I Q q => q _ H B (Same.refl B) I (.bl y)
theorem de_non {j} : DE M X (.Constant .none j pos) ρ .none := de_of pe_non fun B F σ H I Q q => q _ H B (Same.refl B) I .non
/-- a constant of the module -/
theorem de_glob {v : V} {u : Value} (c : Cv M N sc X) (hm : M.mg x = some u) (r : RelV v u) (hd : ∀ B, Dp M.K B v d) (hv : (glB sc x && okN x) = true := by decide +kernel) : DE M X (.Name x pos) ρ d := by
  rw [Bool.and_eq_true] at hv
  exact de_of (pe_glob (c.gl hv.1) (by rw [c.eg]; exact hm) r (okN1 hv.2)) fun B F σ H I Q q => q _ H B (Same.refl B) I (hd B)

/-! ### operators by data -/
def Op2 (M : Md) (X : Cx) (f : Value → Value → Sem Value) (d1 d2 d : PyData) : Prop := ∃ r : R2, OpR X f r ∧ ∀ B F σ H ρ v1 v2, EnvB M.K B F H σ ρ → Dp M.K B v1 d1 → Dp M.K B v2 d2 → ∀ Q : VK, (∀ v H' B', Same B B' → EnvB M.K B' F H' σ ρ → Dp M.K B' v d → Q v H') → r v1 v2 H Q
theorem run2 {σ : L2.St} {H : Hp} {B F : Hp} {R : V → V → Hp → Prop} (ha : DE M X a ρ d1) (hb : DE M X b ρ d2) (I : EnvB M.K B F H σ ρ)
    (q : ∀ v1 v2 H' B', Same B B' → EnvB M.K B' F H' σ ρ → Dp M.K B' v1 d1 → Dp M.K B' v2 d2 → R v1 v2 H') : semE X a σ H fun v1 H1 => semE X b σ H1 fun v2 H2 => R v1 v2 H2 :=
  ha B F σ H I _ fun v1 H1 B1 s1 I1 p1 => hb B1 F σ H1 I1 _ fun v2 H2 B2 s2 I2 p2 => q v1 v2 H2 B2 (s1.trans s2) I2 (dp_mono s2 p1) p2
theorem de_bin {op : Operator} (ha : DE M X a ρ d1) (hb : DE M X b ρ d2) (ho : Op2 M X (binaryOp op) d1 d2 d) : DE M X (.BinOp a op b pos) ρ d := by
  obtain ⟨r, hr, hq⟩ := ho
  refine de_of (pe_op hr pe_sem pe_sem) fun B F σ H I Q q => run2 (R := fun v1 v2 H' => r v1 v2 H' Q) ha hb I fun v1 v2 H' B' s I' p1 p2 => ?_
  exact hq B' F σ H' ρ v1 v2 I' p1 p2 Q fun v H2 B2 s2 I2 p3 => q v H2 B2 (s.trans s2) I2 p3
theorem de_cmp {op : CmpOp} (ha : DE M X a ρ d1) (hb : DE M X b ρ d2) (ho : Op2 M X (compareOp op) d1 d2 (.bool bb)) (hm : behindInMarks op b = false) : DE M X (.Compare a [op] [b] pos) ρ (.bool bb) := by
  obtain ⟨r, hr, hq⟩ := ho
  refine de_of (pe_cmpR hr pe_sem pe_sem hm) fun B F σ H I Q q => run2 (R := fun v1 v2 H' => r v1 v2 H' Q) ha hb I fun v1 v2 H' B' s I' p1 p2 => ?_
  exact hq B' F σ H' ρ v1 v2 I' p1 p2 Q fun v H2 B2 s2 I2 p3 => q v H2 B2 (s.trans s2) I2 p3
theorem dt_cmp {op : CmpOp} (ha : DE M X a ρ d1) (hb : DE M X b ρ d2) (ho : Op2 M X (compareOp op) d1 d2 (.bool bb)) (hm : behindInMarks op b = false) : DT M X (.Compare a [op] [b] pos) ρ bb := by
  obtain ⟨r, hr, hq⟩ := ho
  refine dt_of (pt_cmpR hr pe_sem pe_sem hm) fun B F σ H I Q q => run2 (R := fun v1 v2 H' => r v1 v2 H' fun x H2 => ∃ k, x = .bl k ∧ Q k H2) ha hb I fun v1 v2 H' B' s I' p1 p2 => ?_
  refine hq B' F σ H' ρ v1 v2 I' p1 p2 _ fun v H2 B2 s2 I2 p3 => ?_
  cases p3
  exact ⟨bb, rfl, q H2 B2 (s.trans s2) I2⟩
/-- a < b < c -/
theorem dt_chain {op op' : CmpOp} (ha : DE M X a ρ d1) (hb : DE M X b ρ d2) (ho : Op2 M X (compareOp op) d1 d2 (.bool b1)) (hc : b1 = true → DE M X c' ρ d3) (ho' : b1 = true → Op2 M X (compareOp op') d2 d3 (.bool b2))
    (hm : lastMarks [op, op'] [b, c'] = false := by with_unfolding_all rfl) (he : bb = (b1 && b2)) : DT M X (.Compare a [op, op'] [b, c'] pos) ρ bb := by
  obtain ⟨r, hr, hq⟩ := ho
  by_cases hb1 : b1 = true
  · obtain ⟨r', hr', hq'⟩ := ho' hb1
    have hc := hc hb1
    refine dt_of (pt_chain hr hr' pe_sem pe_sem pe_sem hm) fun B F σ H I Q q => ?_
    refine ha B F σ H I _ fun v1 H1 B1 s1 I1 p1 => hb B1 F σ H1 I1 _ fun v2 H2 B2 s2 I2 p2 => ?_
    refine hq B2 F σ H2 ρ v1 v2 I2 (dp_mono s2 p1) p2 _ fun v H3 B3 s3 I3 p3 => ?_
    cases p3
    refine ⟨b1, rfl, ?_⟩
    rw [if_pos hb1]
    refine hc B3 F σ H3 I3 _ fun v4 H4 B4 s4 I4 p4 => ?_
    refine hq' B4 F σ H4 ρ v2 v4 I4 (dp_mono (s3.trans s4) p2) p4 _ fun v5 H5 B5 s5 I5 p5 => ?_
    cases p5
    refine ⟨b2, rfl, ?_⟩
    have e2 : b2 = bb := by rw [he, hb1]; rfl
    rw [e2]
    exact q H5 B5 ((((s1.trans s2).trans s3).trans s4).trans s5) I5
  · have e1 : b1 = false := by simpa using hb1
    refine dt_of (pt_chain hr (r' := fun _ _ _ _ => False) (fun _ _ _ _ _ _ _ _ _ _ _ _ z => z.elim) pe_sem pe_sem pe_sem hm) fun B F σ H I Q q => ?_
    refine ha B F σ H I _ fun v1 H1 B1 s1 I1 p1 => hb B1 F σ H1 I1 _ fun v2 H2 B2 s2 I2 p2 => ?_
    refine hq B2 F σ H2 ρ v1 v2 I2 (dp_mono s2 p1) p2 _ fun v H3 B3 s3 I3 p3 => ?_
    cases p3
    refine ⟨b1, rfl, ?_⟩
    rw [if_neg hb1]
    have e2 : bb = false := by rw [he, e1]; rfl
    rw [e2] at q
    exact ⟨false, rfl, q H3 B3 ((s1.trans s2).trans s3) I3⟩
/-- operators whose answer is a plain value -/
theorem op2_val {f : Value → Value → Sem Value} {r : R2} {v1 v2 v : V} (hr : OpR X f r) (i1 : ∀ B u, Dp M.K B u d1 → u = v1) (i2 : ∀ B u, Dp M.K B u d2 → u = v2) (hd : ∀ B, Dp M.K B v d) (h : ∀ H Q, Q v H → r v1 v2 H Q) : Op2 M X f d1 d2 d := by
  refine ⟨r, hr, fun B F σ H ρ u1 u2 I p1 p2 Q q => ?_⟩
  rw [i1 B u1 p1, i2 B u2 p2]
  exact h H Q (q _ _ _ (Same.refl B) I (hd B))
theorem inv_int {K : PySem.W.Frag} {n : Int} : ∀ B u, Dp K B u (.int n) → u = .int n := fun _ _ h => by cases h; rfl
theorem inv_str {K : PySem.W.Frag} {n : Str} : ∀ B u, Dp K B u (.str n) → u = .str n := fun _ _ h => by cases h; rfl
theorem inv_bl {K : PySem.W.Frag} {n : Bool} : ∀ B u, Dp K B u (.bool n) → u = .bl n := fun _ _ h => by cases h; rfl
theorem inv_non {K : PySem.W.Frag} : ∀ B u, Dp K B u .none → u = .non := fun _ _ h => by cases h; rfl
variable {m n : Int}
theorem o_add : Op2 M X (binaryOp .Add) (.int m) (.int n) (.int (m + n)) := op2_val op_add inv_int inv_int (fun B => .int (m + n)) fun H Q q => ⟨m, n, rfl, rfl, q⟩
theorem o_sub : Op2 M X (binaryOp .Sub) (.int m) (.int n) (.int (m - n)) := op2_val op_sub inv_int inv_int (fun B => .int (m - n)) fun H Q q => ⟨m, n, rfl, rfl, q⟩
theorem o_mul (h : CMul m n) : Op2 M X (binaryOp .Mult) (.int m) (.int n) (.int (m * n)) := op2_val op_mul inv_int inv_int (fun B => .int (m * n)) fun H Q q => ⟨m, n, rfl, rfl, h, q⟩
theorem o_mulW (h : CMulW m n) : Op2 M X (binaryOp .Mult) (.int m) (.int n) (.int (m * n)) := op2_val op_mulW inv_int inv_int (fun B => .int (m * n)) fun H Q q => ⟨m, n, rfl, rfl, h, q⟩
theorem o_fdiv (h : CDiv m n) : Op2 M X (binaryOp .FloorDiv) (.int m) (.int n) (.int (m / n)) := op2_val op_fdiv inv_int inv_int (fun B => .int (m / n)) fun H Q q => ⟨m, n, rfl, rfl, h, q⟩
theorem o_fdivW (h : CDivW m n) : Op2 M X (binaryOp .FloorDiv) (.int m) (.int n) (.int (m / n)) := op2_val op_fdivW inv_int inv_int (fun B => .int (m / n)) fun H Q q => ⟨m, n, rfl, rfl, h, q⟩
theorem o_mod (h : 0 < n) : Op2 M X (binaryOp .Mod) (.int m) (.int n) (.int (m % n)) := op2_val op_mod inv_int inv_int (fun B => .int (m % n)) fun H Q q => ⟨m, n, rfl, rfl, h, q⟩
theorem o_shl (h : CPow m n) : Op2 M X (binaryOp .LShift) (.int m) (.int n) (.int (m * 2 ^ n.toNat)) := op2_val op_shl inv_int inv_int (fun B => .int (m * 2 ^ n.toNat)) fun H Q q => ⟨m, n, rfl, rfl, h, q⟩
theorem o_lt : Op2 M X (compareOp .Lt) (.int m) (.int n) (.bool (decide (m < n))) := op2_val op_lt inv_int inv_int (fun B => .bl _) fun H Q q => ⟨m, n, rfl, rfl, q⟩
theorem o_le : Op2 M X (compareOp .LtE) (.int m) (.int n) (.bool (decide (m ≤ n))) := op2_val op_le inv_int inv_int (fun B => .bl _) fun H Q q => ⟨m, n, rfl, rfl, q⟩
theorem o_gt : Op2 M X (compareOp .Gt) (.int m) (.int n) (.bool (decide (n < m))) := op2_val op_gt inv_int inv_int (fun B => .bl _) fun H Q q => ⟨m, n, rfl, rfl, q⟩
theorem o_ge : Op2 M X (compareOp .GtE) (.int m) (.int n) (.bool (decide (n ≤ m))) := op2_val op_ge inv_int inv_int (fun B => .bl _) fun H Q q => ⟨m, n, rfl, rfl, q⟩
theorem o_eqI : Op2 M X (compareOp .Eq) (.int m) (.int n) (.bool (decide (m = n))) := op2_val op_eq inv_int inv_int (fun B => .bl _) fun H Q q => ⟨rfl, by
  have e : decide (V.int m = V.int n) = decide (m = n) := by simp
  rw [e]; exact q⟩
theorem o_neI : Op2 M X (compareOp .NotEq) (.int m) (.int n) (.bool (!decide (m = n))) := op2_val op_ne inv_int inv_int (fun B => .bl _) fun H Q q => ⟨rfl, by
  have e : decide (V.int m = V.int n) = decide (m = n) := by simp
  rw [e]; exact q⟩
theorem o_eqS {y z : Str} : Op2 M X (compareOp .Eq) (.str y) (.str z) (.bool (decide (y = z))) := op2_val op_eq inv_str inv_str (fun B => .bl _) fun H Q q => ⟨rfl, by
  have e : decide (V.str y = V.str z) = decide (y = z) := by simp
  rw [e]; exact q⟩
theorem o_neS {y z : Str} : Op2 M X (compareOp .NotEq) (.str y) (.str z) (.bool (!decide (y = z))) := op2_val op_ne inv_str inv_str (fun B => .bl _) fun H Q q => ⟨rfl, by
  have e : decide (V.str y = V.str z) = decide (y = z) := by simp
  rw [e]; exact q⟩
/-- == of any data -/
theorem o_eqD (c : Cv M N sc X) (h1 : SeqAt.shaped d1 = true) (h2 : SeqAt.shaped d2 = true) : Op2 M X (compareOp .Eq) d1 d2 (.bool (PyData.eqv d1 d2)) :=
  ⟨_, op_eqD (by have := c.un; omega), fun B F σ H ρ u1 u2 I p1 p2 Q q => ⟨d1, d2, by rw [c.eK]; exact dp_mono I.bh p1, by rw [c.eK]; exact dp_mono I.bh p2, h1, h2, q _ _ _ (Same.refl B) I (.bl _)⟩⟩
theorem o_neD (c : Cv M N sc X) (h1 : SeqAt.shaped d1 = true) (h2 : SeqAt.shaped d2 = true) : Op2 M X (compareOp .NotEq) d1 d2 (.bool (!PyData.eqv d1 d2)) :=
  ⟨_, op_neD (by have := c.un; omega), fun B F σ H ρ u1 u2 I p1 p2 Q q => ⟨d1, d2, by rw [c.eK]; exact dp_mono I.bh p1, by rw [c.eK]; exact dp_mono I.bh p2, h1, h2, q _ _ _ (Same.refl B) I (.bl _)⟩⟩
def isNone : PyData → Bool
  | .none => true
  | _ => false
theorem dec_non {K : PySem.W.Frag} {B : Hp} {v : V} (p : Dp K B v d) : decide (v = V.non) = isNone d := by cases p <;> simp [isNone]
theorem o_isN : Op2 M X (compareOp .Is) d .none (.bool (isNone d)) := ⟨_, op_isN, fun B F σ H ρ u1 u2 I p1 p2 Q q => by
  cases p2
  refine ⟨rfl, ?_⟩
  rw [dec_non p1]
  exact q _ _ _ (Same.refl B) I (.bl _)⟩
theorem o_notN : Op2 M X (compareOp .IsNot) d .none (.bool (!isNone d)) := ⟨_, op_notN, fun B F σ H ρ u1 u2 I p1 p2 Q q => by
  cases p2
  refine ⟨rfl, ?_⟩
  rw [dec_non p1]
  exact q _ _ _ (Same.refl B) I (.bl _)⟩

/-! ### truth, and, or, not -/
def tru : PyData → Bool
  | .none => false
  | .bool b => b
  | .int i => i != 0
  | .str s => (s.length : Int) != 0
  | .list xs => !xs.isEmpty
  | .tuple xs => !xs.isEmpty
  | .dict _ => false
def truOk : PyData → Prop
  | .str s => s.length ≤ sizeLine
  | _ => True
theorem tru_of {K : PySem.W.Frag} {B H : Hp} {v : V} (e : Same B H) (p : Dp K B v d) (h : truOk d) : TruV K v H (tru d) := by
  cases p with
  | non => rfl
  | bl b => rfl
  | int i => rfl
  | str y => exact ⟨h, rfl⟩
  | lst s al =>
    refine Or.inl ⟨_, e.seq s, ?_⟩
    have := dpa_len al
    show (!List.isEmpty _) = _
    rename_i xs ds
    cases xs <;> cases ds <;> first | rfl | simp at this
  | tup s al =>
    refine Or.inr (Or.inl ⟨_, Evl.ex_t e s, ?_⟩)
    have := dpa_len al
    show (!List.isEmpty _) = _
    rename_i xs ds
    cases xs <;> cases ds <;> first | rfl | simp at this
theorem dt_tru (c : Cv M N sc X) (h : DE M X e ρ d) (ho : truOk d) (he : ∀ whole, isTrue e X.env whole = (do let v ← whole; standAt e.pos; holding [v] (truthy v)) := by intro _; rfl) : DT M X e ρ (tru d) :=
  dt_of (pt_truth pe_sem he) fun B F σ H I Q q => h B F σ H I _ fun v H' B' s I' p => ⟨tru d, by rw [c.eK]; exact tru_of I'.bh p ho, q H' B' s I'⟩
theorem dt_val (h : DE M X e ρ (.bool bb)) (he : ∀ whole, isTrue e X.env whole = (do let v ← whole; standAt e.pos; holding [v] (truthy v)) := by intro _; rfl) : DT M X e ρ bb :=
  dt_of (pt_val pe_sem he) fun B F σ H I Q q => h B F σ H I _ fun v H' B' s I' p => by
    cases p
    exact ⟨bb, rfl, q H' B' s I'⟩
theorem dt_not (h : DT M X a ρ b1) : DT M X (.UnaryOp .Not a pos) ρ (!b1) := dt_of (pt_not pt_sem) fun B F σ H I Q q => h B F σ H I _ fun H' B' s I' => q H' B' s I'
theorem dt_bool (h : DW M X e ρ bb) : DT M X e ρ bb := fun B F σ H I Q q pins s iv => h B F σ H I Q q _ pins s iv
theorem dw_and1 (h : DT M X a ρ b1) : DW M X (.BoolOp .And [a] pos) ρ b1 := dw_of (pw_and1 pt_sem) h
theorem dw_or1 (h : DT M X a ρ b1) : DW M X (.BoolOp .Or [a] pos) ρ b1 := dw_of (pw_or1 pt_sem) h
theorem dw_and (h : DT M X a ρ b1) (h2 : b1 = true → DW M X (.BoolOp .And (b :: es) pos) ρ b2) : DW M X (.BoolOp .And (a :: b :: es) pos) ρ (b1 && b2) := dw_of (pw_and pt_sem pw_sem) fun B F σ H I Q q => h B F σ H I _ fun H' B' s I' => by
  cases b1 with
  | true =>
    rw [if_pos rfl]
    exact h2 rfl B' F σ H' I' Q fun H2 B2 s2 I2 => q H2 B2 (s.trans s2) I2
  | false =>
    rw [if_neg Bool.false_ne_true]
    exact q H' B' s I'
theorem dw_or (h : DT M X a ρ b1) (h2 : b1 = false → DW M X (.BoolOp .Or (b :: es) pos) ρ b2) : DW M X (.BoolOp .Or (a :: b :: es) pos) ρ (b1 || b2) := dw_of (pw_or pt_sem pw_sem) fun B F σ H I Q q => h B F σ H I _ fun H' B' s I' => by
  cases b1 with
  | false =>
    rw [if_neg Bool.false_ne_true]
    exact h2 rfl B' F σ H' I' Q fun H2 B2 s2 I2 => q H2 B2 (s.trans s2) I2
  | true =>
    rw [if_pos rfl]
    exact q H' B' s I'
/-- as values, of bools -/
theorem de_one {op} (h : DE M X a ρ d) : DE M X (.BoolOp op [a] pos) ρ d := de_of (pe_one pe_sem) h
theorem de_and (h : DE M X a ρ (.bool b1)) (h2 : b1 = true → DE M X (.BoolOp .And (b :: es) pos) ρ (.bool b2)) : DE M X (.BoolOp .And (a :: b :: es) pos) ρ (.bool (b1 && b2)) := de_of (pe_and pe_sem pe_sem) fun B F σ H I Q q => h B F σ H I _ fun v H' B' s I' p => by
  cases p
  refine ⟨b1, rfl, ?_⟩
  cases b1 with
  | true =>
    rw [if_pos rfl]
    exact h2 rfl B' F σ H' I' Q fun v H2 B2 s2 I2 p2 => q v H2 B2 (s.trans s2) I2 p2
  | false =>
    rw [if_neg Bool.false_ne_true]
    exact q _ H' B' s I' (.bl false)
theorem de_or (h : DE M X a ρ (.bool b1)) (h2 : b1 = false → DE M X (.BoolOp .Or (b :: es) pos) ρ (.bool b2)) : DE M X (.BoolOp .Or (a :: b :: es) pos) ρ (.bool (b1 || b2)) := de_of (pe_or pe_sem pe_sem) fun B F σ H I Q q => h B F σ H I _ fun v H' B' s I' p => by
  cases p
  refine ⟨b1, rfl, ?_⟩
  cases b1 with
  | false =>
    rw [if_neg Bool.false_ne_true]
    exact h2 rfl B' F σ H' I' Q fun v H2 B2 s2 I2 p2 => q v H2 B2 (s.trans s2) I2 p2
  | true =>
    rw [if_pos rfl]
    exact q _ H' B' s I' (.bl true)
theorem de_not (h : DE M X a ρ (.bool b1)) : DE M X (.UnaryOp .Not a pos) ρ (.bool (!b1)) := de_of (pe_not pe_sem) fun B F σ H I Q q => h B F σ H I _ fun v H' B' s I' p => by
  cases p
  exact ⟨b1, rfl, q _ H' B' s I' (.bl _)⟩
theorem de_neg (h : DE M X a ρ (.int m)) : DE M X (.UnaryOp .USub a pos) ρ (.int (-m)) := de_of (pe_un un_neg pe_sem) fun B F σ H I Q q => h B F σ H I _ fun v H' B' s I' p => by
  cases p
  exact ⟨m, rfl, q _ H' B' s I' (.int _)⟩
theorem de_if (h : DT M X e ρ bb) (h1 : bb = true → DE M X a ρ d) (h2 : bb = false → DE M X b ρ d) : DE M X (.IfExp e a b pos) ρ d := de_of (pe_ifExp pt_sem pe_sem pe_sem) fun B F σ H I Q q => h B F σ H I _ fun H' B' s I' => by
  cases bb with
  | true =>
    rw [if_pos rfl]
    exact h1 rfl B' F σ H' I' Q fun v H2 B2 s2 I2 p => q v H2 B2 (s.trans s2) I2 p
  | false =>
    rw [if_neg Bool.false_ne_true]
    exact h2 rfl B' F σ H' I' Q fun v H2 B2 s2 I2 p => q v H2 B2 (s.trans s2) I2 p

/-! ### arguments, displays -/
theorem da_nil : DA M X [] ρ [] := da_of pa_nil fun B F σ H I Q q => q [] H B (Same.refl B) I .nil
theorem da_cons (h : DE M X e ρ d) (hr : DA M X es ρ ds) (hs : starEach (e :: es) X.env = (false, eval e X.env) :: starEach es X.env := by rfl) : DA M X (e :: es) ρ (d :: ds) :=
  da_of (pa_cons pe_sem pa_sem hs) fun B F σ H I Q q => h B F σ H I _ fun v H1 B1 s1 I1 p1 => hr B1 F σ H1 I1 _ fun vs H2 B2 s2 I2 p2 => q _ H2 B2 (s1.trans s2) I2 (.cons (dp_mono s2 p1) p2)
theorem de_tup {x1} (h : DA M X es ρ ds) (hl : ds.length ≤ 100000) : DE M X (.Tuple es x1 pos) ρ (.tuple ds) := de_of (pe_tup pa_sem) fun B F σ H I Q q => h B F σ H I _ fun vs H' B' s I' p =>
  ⟨by rw [dpa_len p]; exact Evl.sz_of hl, fun a ha => by
    obtain ⟨s2, I2⟩ := I'.new (o := .tup vs) ha
    exact q _ _ _ (s.trans s2) I2 (.tup (.inl (.inl upd_same)) (dpa_mono s2 p))⟩
theorem dn_lst (h : DA M X es ρ ds) (hl : ds.length ≤ 100000) : DN M X (.List es pos) ρ ds := dn_of (pe_lst pa_sem) fun B F σ H I Q q => h B F σ H I _ fun vs H' B' s I' p =>
  ⟨by rw [dpa_len p]; exact Evl.sz_of hl, fun a ha => q a vs _ B' s (I'.fh.free ha) (I'.lay ha) p⟩
theorem de_lst (h : DA M X es ρ ds) (hl : ds.length ≤ 100000) : DE M X (.List es pos) ρ (.list ds) := (dn_lst h hl).de

/-! ### calls of built-ins -/
def Cl (M : Md) (X : Cx) (f : Value) (ds : List PyData) (d : PyData) : Prop := ∃ r, CallR X f r ∧ ∀ B F σ H ρ vs, EnvB M.K B F H σ ρ → DpAll M.K B vs ds → ∀ Q : VK, (∀ v H' B', Same B B' → EnvB M.K B' F H' σ ρ → Dp M.K B' v d → Q v H') → r vs H Q
theorem de_callB {id : String} {q : Pos} (c : Cv M N sc X) (hm : M.mg x = none) (hv : bootBuiltins x = some (.builtin id)) (ha : DA M X (e :: es) ρ ds) (hc : Cl M X (.builtin id) ds d)
    (he : starEach (e :: es) X.env = (false, eval e X.env) :: starEach es X.env := by rfl) (hpl : (backTo pos (starEach es X.env)).any (·.1) = false := by rfl) (hg : (glB sc x && okN x) = true := by decide +kernel) : DE M X (.Call (.Name x q) (e :: es) [] pos) ρ d := by
  rw [Bool.and_eq_true] at hg
  obtain ⟨r, hr, hq⟩ := hc
  exact de_of (pe_callB hr (c.gl hg.1) (by rw [c.eg]; exact hm) hv pa_sem (okN3 hg.2) (okN1 hg.2) he hpl) fun B F σ H I Q q => ha B F σ H I _ fun vs H' B' s I' p =>
    hq B' F σ H' ρ vs I' p Q fun v H2 B2 s2 I2 p2 => q v H2 B2 (s.trans s2) I2 p2
theorem de_callTy {T : String} {q : Pos} (c : Cv M N sc X) (hm : M.mg x = none) (hv : bootBuiltins x = some (.type T)) (ha : DA M X (e :: es) ρ ds) (hc : Cl M X (.type T) ds d)
    (he : starEach (e :: es) X.env = (false, eval e X.env) :: starEach es X.env := by rfl) (hpl : (backTo pos (starEach es X.env)).any (·.1) = false := by rfl) (hg : (glB sc x && okN x) = true := by decide +kernel) : DE M X (.Call (.Name x q) (e :: es) [] pos) ρ d := by
  rw [Bool.and_eq_true] at hg
  obtain ⟨r, hr, hq⟩ := hc
  exact de_of (pe_callTy hr (c.gl hg.1) (by rw [c.eg]; exact hm) hv pa_sem (okN3 hg.2) (okN1 hg.2) he hpl) fun B F σ H I Q q => ha B F σ H I _ fun vs H' B' s I' p =>
    hq B' F σ H' ρ vs I' p Q fun v H2 B2 s2 I2 p2 => q v H2 B2 (s.trans s2) I2 p2
theorem inv_all1 {K : PySem.W.Frag} {B : Hp} {vs : List V} (h : DpAll K B vs [d]) : ∃ v, vs = [v] ∧ Dp K B v d := by
  cases h with
  | cons h t => cases t; exact ⟨_, rfl, h⟩
theorem inv_all2 {K : PySem.W.Frag} {B : Hp} {vs : List V} (h : DpAll K B vs [d1, d2]) : ∃ v w, vs = [v, w] ∧ Dp K B v d1 ∧ Dp K B w d2 := by
  cases h with
  | cons h t =>
    cases t with
    | cons h2 t => cases t; exact ⟨_, _, rfl, h, h2⟩
theorem cl_abs : Cl M X (.builtin "abs") [.int m] (.int (if m < 0 then -m else m)) := ⟨_, call_abs, fun B F σ H ρ vs I p Q q => by
  obtain ⟨v, rfl, p1⟩ := inv_all1 p
  cases p1
  exact ⟨m, rfl, q _ _ _ (Same.refl B) I (.int _)⟩⟩
theorem cl_max2 (hc : X.calm = true) : Cl M X (.builtin "max") [.int m, .int n] (.int (if n > m then n else m)) := ⟨_, call_max2 hc, fun B F σ H ρ vs I p Q q => by
  obtain ⟨v, w, rfl, p1, p2⟩ := inv_all2 p
  cases p1; cases p2
  exact ⟨m, n, rfl, q _ _ _ (Same.refl B) I (.int _)⟩⟩
theorem cl_min2 (hc : X.calm = true) : Cl M X (.builtin "min") [.int m, .int n] (.int (if n < m then n else m)) := ⟨_, call_min2 hc, fun B F σ H ρ vs I p Q q => by
  obtain ⟨v, w, rfl, p1, p2⟩ := inv_all2 p
  cases p1; cases p2
  exact ⟨m, n, rfl, q _ _ _ (Same.refl B) I (.int _)⟩⟩
theorem cl_len_str {y : Str} (h : y.length ≤ sizeLine) : Cl M X (.builtin "len") [.str y] (.int y.length) := ⟨_, call_len_str, fun B F σ H ρ vs I p Q q => by
  obtain ⟨v, rfl, p1⟩ := inv_all1 p
  cases p1
  exact ⟨y, rfl, h, q _ _ _ (Same.refl B) I (.int _)⟩⟩
theorem cl_len_lst (c : Cv M N sc X) : Cl M X (.builtin "len") [.list ds] (.int ds.length) := ⟨_, call_len_seq, fun B F σ H ρ vs I p Q q => by
  obtain ⟨v, rfl, p1⟩ := inv_all1 p
  cases p1 with
  | lst s al => exact ⟨_, _, rfl, .inl (by rw [c.eK]; exact I.bh.seq s), by rw [dpa_len al]; exact q _ _ _ (Same.refl B) I (.int _)⟩⟩
theorem cl_len_tup (c : Cv M N sc X) : Cl M X (.builtin "len") [.tuple ds] (.int ds.length) := ⟨_, call_len_seq, fun B F σ H ρ vs I p Q q => by
  obtain ⟨v, rfl, p1⟩ := inv_all1 p
  cases p1 with
  | tup s al => exact ⟨_, _, rfl, .inr (by rw [c.eK]; exact Evl.ex_t I.bh s), by rw [dpa_len al]; exact q _ _ _ (Same.refl B) I (.int _)⟩⟩
theorem cl_tuple_lst (c : Cv M N sc X) : Cl M X (.type "tuple") [.list ds] (.tuple ds) := ⟨_, call_tuple_of, fun B F σ H ρ vs I p Q q => by
  obtain ⟨v, rfl, p1⟩ := inv_all1 p
  cases p1 with
  | lst s al => exact ⟨_, _, rfl, .inl ⟨by rw [c.eK]; exact I.bh.seq s, fun a ha => by
      obtain ⟨s2, I2⟩ := I.new (o := .tup _) ha
      exact q _ _ _ s2 I2 (.tup (.inl (.inl upd_same)) (dpa_mono s2 al))⟩⟩⟩
theorem cl_tuple_tup (c : Cv M N sc X) : Cl M X (.type "tuple") [.tuple ds] (.tuple ds) := ⟨_, call_tuple_of, fun B F σ H ρ vs I p Q q => by
  obtain ⟨v, rfl, p1⟩ := inv_all1 p
  cases p1 with
  | tup s al => exact ⟨_, _, rfl, .inr ⟨by rw [c.eK]; exact Evl.ex_t I.bh s, q _ _ _ (Same.refl B) I (.tup s al)⟩⟩⟩
theorem cl_list_lst (c : Cv M N sc X) : Cl M X (.type "list") [.list ds] (.list ds) := ⟨_, call_list_of, fun B F σ H ρ vs I p Q q => by
  obtain ⟨v, rfl, p1⟩ := inv_all1 p
  cases p1 with
  | lst s al => exact ⟨_, _, rfl, .inl (by rw [c.eK]; exact I.bh.seq s), fun a ha => by
      obtain ⟨s2, I2⟩ := I.new (o := .lst _) ha
      exact q _ _ _ s2 I2 (.lst (.inl (.inl upd_same)) (dpa_mono s2 al))⟩⟩
theorem cl_list_tup (c : Cv M N sc X) : Cl M X (.type "list") [.tuple ds] (.list ds) := ⟨_, call_list_of, fun B F σ H ρ vs I p Q q => by
  obtain ⟨v, rfl, p1⟩ := inv_all1 p
  cases p1 with
  | tup s al => exact ⟨_, _, rfl, .inr (by rw [c.eK]; exact Evl.ex_t I.bh s), fun a ha => by
      obtain ⟨s2, I2⟩ := I.new (o := .lst _) ha
      exact q _ _ _ s2 I2 (.lst (.inl (.inl upd_same)) (dpa_mono s2 al))⟩⟩

/-! ### subscripts -/
def Ix (M : Md) (X : Cx) (d1 d2 d : PyData) : Prop := ∃ r : R2, IxR X r ∧ ∀ B F σ H ρ v1 v2, EnvB M.K B F H σ ρ → Dp M.K B v1 d1 → Dp M.K B v2 d2 → ∀ Q : VK, (∀ v H' B', Same B B' → EnvB M.K B' F H' σ ρ → Dp M.K B' v d → Q v H') → r v1 v2 H Q
theorem de_ix (ha : DE M X a ρ d1) (hb : DE M X b ρ d2) (ho : Ix M X d1 d2 d) (hs : PlainIx b := by intro _ _; rfl) : DE M X (.Subscript a b pos) ρ d := by
  obtain ⟨r, hr, hq⟩ := ho
  refine de_of (pe_ix hr pe_sem pe_sem hs) fun B F σ H I Q q => run2 (R := fun v1 v2 H' => r v1 v2 H' Q) ha hb I fun v1 v2 H' B' s I' p1 p2 => ?_
  exact hq B' F σ H' ρ v1 v2 I' p1 p2 Q fun v H2 B2 s2 I2 p3 => q v H2 B2 (s.trans s2) I2 p3
theorem atI_dp {K : PySem.W.Frag} {B : Hp} {vs : List V} (al : DpAll K B vs ds) (h : atI ds n = some d) : ∃ v, atI vs n = some v ∧ Dp K B v d := by
  unfold atI at h ⊢
  rw [dpa_len al]
  cases hj : ixN ds.length n with
  | none => rw [hj] at h; cases h
  | some j =>
    rw [hj] at h
    exact dpa_getd al j d h
theorem ix_t (c : Cv M N sc X) (h : atI ds n = some d) : Ix M X (.tuple ds) (.int n) d := ⟨_, ix_tup, fun B F σ H ρ u1 u2 I p1 p2 Q q => by
  cases p2
  cases p1 with
  | tup s al =>
    obtain ⟨v, hv, hd⟩ := atI_dp al h
    exact ⟨_, _, n, v, rfl, rfl, by rw [c.eK]; exact Evl.ex_t I.bh s, hv, q _ _ _ (Same.refl B) I hd⟩⟩
theorem ix_l (c : Cv M N sc X) (h : atI ds n = some d) : Ix M X (.list ds) (.int n) d := ⟨_, ix_list, fun B F σ H ρ u1 u2 I p1 p2 Q q => by
  cases p2
  cases p1 with
  | lst s al =>
    obtain ⟨v, hv, hd⟩ := atI_dp al h
    exact ⟨_, _, n, v, rfl, rfl, by rw [c.eK]; exact I.bh.seq s, hv, q _ _ _ (Same.refl B) I hd⟩⟩
end
end Dl

namespace Dl
open PySem PySem.Spec PyProof.Rows L2

theorem le_eq {x y : Sl} {a b : List Sl} (e : x = y) (h : Le a b) : Le (x :: a) (y :: b) := e ▸ le_same h
/-! ### places -/
inductive Get {α : Type} : Nat → α → List α → Prop
  | z {s : α} {r : List α} : Get 0 s (s :: r)
  | s {i : Nat} {s x : α} {r : List α} (h : Get i s r) : Get (i + 1) s (x :: r)
theorem Get.at {α : Type} {i : Nat} {s : α} {r : List α} (h : Get i s r) : r[i]? = some s := by
  induction h with
  | z => rfl
  | s h ih => simpa using ih
inductive SetAt : Nat → Sl → List Sl → List Sl → Prop
  | z {s x : Sl} {r : List Sl} : SetAt 0 s (x :: r) (s :: r)
  | s {i : Nat} {s x : Sl} {r r' : List Sl} (h : SetAt i s r r') : SetAt (i + 1) s (x :: r) (x :: r')
theorem SetAt.eq {i : Nat} {s : Sl} {r r' : List Sl} (h : SetAt i s r r') : r.set i s = r' ∧ i < r.length := by
  induction h with
  | z => exact ⟨rfl, by simp⟩
  | s h ih => exact ⟨by rw [List.set_cons_succ, ih.1], by rw [List.length_cons]; have := ih.2; omega⟩
section
variable {α : Type} {s x0 x1 x2 x3 x4 x5 x6 x7 x8 x9 xa xb xc xd xe xf xg : α} {r : List α}
theorem G0 : Get 0 s (s :: r) := .z
theorem G1 : Get 1 s (x0 :: s :: r) := .s G0
theorem G2 : Get 2 s (x0 :: x1 :: s :: r) := .s G1
theorem G3 : Get 3 s (x0 :: x1 :: x2 :: s :: r) := .s G2
theorem G4 : Get 4 s (x0 :: x1 :: x2 :: x3 :: s :: r) := .s G3
theorem G5 : Get 5 s (x0 :: x1 :: x2 :: x3 :: x4 :: s :: r) := .s G4
theorem G6 : Get 6 s (x0 :: x1 :: x2 :: x3 :: x4 :: x5 :: s :: r) := .s G5
theorem G7 : Get 7 s (x0 :: x1 :: x2 :: x3 :: x4 :: x5 :: x6 :: s :: r) := .s G6
theorem G8 : Get 8 s (x0 :: x1 :: x2 :: x3 :: x4 :: x5 :: x6 :: x7 :: s :: r) := .s G7
theorem G9 : Get 9 s (x0 :: x1 :: x2 :: x3 :: x4 :: x5 :: x6 :: x7 :: x8 :: s :: r) := .s G8
theorem G10 : Get 10 s (x0 :: x1 :: x2 :: x3 :: x4 :: x5 :: x6 :: x7 :: x8 :: x9 :: s :: r) := .s G9
theorem G11 : Get 11 s (x0 :: x1 :: x2 :: x3 :: x4 :: x5 :: x6 :: x7 :: x8 :: x9 :: xa :: s :: r) := .s G10
theorem G12 : Get 12 s (x0 :: x1 :: x2 :: x3 :: x4 :: x5 :: x6 :: x7 :: x8 :: x9 :: xa :: xb :: s :: r) := .s G11
theorem G13 : Get 13 s (x0 :: x1 :: x2 :: x3 :: x4 :: x5 :: x6 :: x7 :: x8 :: x9 :: xa :: xb :: xc :: s :: r) := .s G12
theorem G14 : Get 14 s (x0 :: x1 :: x2 :: x3 :: x4 :: x5 :: x6 :: x7 :: x8 :: x9 :: xa :: xb :: xc :: xd :: s :: r) := .s G13
theorem G15 : Get 15 s (x0 :: x1 :: x2 :: x3 :: x4 :: x5 :: x6 :: x7 :: x8 :: x9 :: xa :: xb :: xc :: xd :: xe :: s :: r) := .s G14
theorem G16 : Get 16 s (x0 :: x1 :: x2 :: x3 :: x4 :: x5 :: x6 :: x7 :: x8 :: x9 :: xa :: xb :: xc :: xd :: xe :: xf :: s :: r) := .s G15
theorem G17 : Get 17 s (x0 :: x1 :: x2 :: x3 :: x4 :: x5 :: x6 :: x7 :: x8 :: x9 :: xa :: xb :: xc :: xd :: xe :: xf :: xg :: s :: r) := .s G16
end
section
variable {s x x0 x1 x2 x3 x4 x5 x6 x7 x8 x9 xa xb xc xd xe xf xg : Sl} {r : List Sl}
theorem T0 : SetAt 0 s (x :: r) (s :: r) := .z
theorem T1 : SetAt 1 s (x0 :: x :: r) (x0 :: s :: r) := .s T0
theorem T2 : SetAt 2 s (x0 :: x1 :: x :: r) (x0 :: x1 :: s :: r) := .s T1
theorem T3 : SetAt 3 s (x0 :: x1 :: x2 :: x :: r) (x0 :: x1 :: x2 :: s :: r) := .s T2
theorem T4 : SetAt 4 s (x0 :: x1 :: x2 :: x3 :: x :: r) (x0 :: x1 :: x2 :: x3 :: s :: r) := .s T3
theorem T5 : SetAt 5 s (x0 :: x1 :: x2 :: x3 :: x4 :: x :: r) (x0 :: x1 :: x2 :: x3 :: x4 :: s :: r) := .s T4
theorem T6 : SetAt 6 s (x0 :: x1 :: x2 :: x3 :: x4 :: x5 :: x :: r) (x0 :: x1 :: x2 :: x3 :: x4 :: x5 :: s :: r) := .s T5
theorem T7 : SetAt 7 s (x0 :: x1 :: x2 :: x3 :: x4 :: x5 :: x6 :: x :: r) (x0 :: x1 :: x2 :: x3 :: x4 :: x5 :: x6 :: s :: r) := .s T6
theorem T8 : SetAt 8 s (x0 :: x1 :: x2 :: x3 :: x4 :: x5 :: x6 :: x7 :: x :: r) (x0 :: x1 :: x2 :: x3 :: x4 :: x5 :: x6 :: x7 :: s :: r) := .s T7
theorem T9 : SetAt 9 s (x0 :: x1 :: x2 :: x3 :: x4 :: x5 :: x6 :: x7 :: x8 :: x :: r) (x0 :: x1 :: x2 :: x3 :: x4 :: x5 :: x6 :: x7 :: x8 :: s :: r) := .s T8
theorem T10 : SetAt 10 s (x0 :: x1 :: x2 :: x3 :: x4 :: x5 :: x6 :: x7 :: x8 :: x9 :: x :: r) (x0 :: x1 :: x2 :: x3 :: x4 :: x5 :: x6 :: x7 :: x8 :: x9 :: s :: r) := .s T9
theorem T11 : SetAt 11 s (x0 :: x1 :: x2 :: x3 :: x4 :: x5 :: x6 :: x7 :: x8 :: x9 :: xa :: x :: r) (x0 :: x1 :: x2 :: x3 :: x4 :: x5 :: x6 :: x7 :: x8 :: x9 :: xa :: s :: r) := .s T10
theorem T12 : SetAt 12 s (x0 :: x1 :: x2 :: x3 :: x4 :: x5 :: x6 :: x7 :: x8 :: x9 :: xa :: xb :: x :: r) (x0 :: x1 :: x2 :: x3 :: x4 :: x5 :: x6 :: x7 :: x8 :: x9 :: xa :: xb :: s :: r) := .s T11
theorem T13 : SetAt 13 s (x0 :: x1 :: x2 :: x3 :: x4 :: x5 :: x6 :: x7 :: x8 :: x9 :: xa :: xb :: xc :: x :: r) (x0 :: x1 :: x2 :: x3 :: x4 :: x5 :: x6 :: x7 :: x8 :: x9 :: xa :: xb :: xc :: s :: r) := .s T12
theorem T14 : SetAt 14 s (x0 :: x1 :: x2 :: x3 :: x4 :: x5 :: x6 :: x7 :: x8 :: x9 :: xa :: xb :: xc :: xd :: x :: r) (x0 :: x1 :: x2 :: x3 :: x4 :: x5 :: x6 :: x7 :: x8 :: x9 :: xa :: xb :: xc :: xd :: s :: r) := .s T13
theorem T15 : SetAt 15 s (x0 :: x1 :: x2 :: x3 :: x4 :: x5 :: x6 :: x7 :: x8 :: x9 :: xa :: xb :: xc :: xd :: xe :: x :: r) (x0 :: x1 :: x2 :: x3 :: x4 :: x5 :: x6 :: x7 :: x8 :: x9 :: xa :: xb :: xc :: xd :: xe :: s :: r) := .s T14
theorem T16 : SetAt 16 s (x0 :: x1 :: x2 :: x3 :: x4 :: x5 :: x6 :: x7 :: x8 :: x9 :: xa :: xb :: xc :: xd :: xe :: xf :: x :: r) (x0 :: x1 :: x2 :: x3 :: x4 :: x5 :: x6 :: x7 :: x8 :: x9 :: xa :: xb :: xc :: xd :: xe :: xf :: s :: r) := .s T15
theorem T17 : SetAt 17 s (x0 :: x1 :: x2 :: x3 :: x4 :: x5 :: x6 :: x7 :: x8 :: x9 :: xa :: xb :: xc :: xd :: xe :: xf :: xg :: x :: r) (x0 :: x1 :: x2 :: x3 :: x4 :: x5 :: x6 :: x7 :: x8 :: x9 :: xa :: xb :: xc :: xd :: xe :: xf :: xg :: s :: r) := .s T16
end
/-! ### targets -/
inductive Pat where
  | nm (j : Nat)
  | tp (js : List Nat)
def gL : List Nat → TGs
  | [] => gNil
  | j :: js => gCons (gName j) (gL js)
def gPat (K : PySem.W.Frag) : Pat → TG
  | .nm j => gName j
  | .tp js => gTup K js.length (gL js)
/-- what a target makes of the slots -/
inductive PSets : List Nat → List PyData → List Sl → List Sl → Prop
  | nil {ρ : List Sl} : PSets [] [] ρ ρ
  | cons {j : Nat} {js : List Nat} {d : PyData} {ds : List PyData} {ρ ρ1 ρ2 : List Sl} (h : SetAt j (.v d) ρ ρ1) (t : PSets js ds ρ1 ρ2) : PSets (j :: js) (d :: ds) ρ ρ2
inductive PSet1 : Pat → PyData → List Sl → List Sl → Prop
  | nm {j : Nat} {d : PyData} {ρ ρ' : List Sl} (h : SetAt j (.v d) ρ ρ') : PSet1 (.nm j) d ρ ρ'
  | tp {js : List Nat} {ds : List PyData} {ρ ρ' : List Sl} (h : PSets js ds ρ ρ') : PSet1 (.tp js) (.tuple ds) ρ ρ'
def Pat.slots : Pat → List Nat
  | .nm j => [j]
  | .tp js => js
section
variable {M : Md} {X : Cx} {W : WX} {N : List Str} {sc : Scope} {k : Nat} {ρ ρ' ρ'' : List Sl} {d d1 d2 d3 : PyData} {ds : List PyData} {e a b c' : Expr} {es : List Expr} {pos p2 p3 p4 p5 : Pos} {x y z : Str} {bb b1 b2 : Bool} {i j l : Nat} {nx : List Sl → Prop} {R : REnds}
theorem wipe_set {σ : L2.St} {o : Option V} : ∀ {vs : List Nat}, j ∈ vs → wipe (σ.set j o) vs = wipe σ vs
  | v :: vs, h => by
    unfold wipe
    by_cases hj : j ∈ vs
    · rw [wipe_set hj]
    · have e : j = v := by
        rcases List.mem_cons.mp h with h | h
        · exact h
        · exact absurd h hj
      subst e
      have q : ∀ (us : List Nat), j ∉ us → (wipe (σ.set j o) us) = (wipe σ us).set j o := fun us => by
        induction us with
        | nil => intro _; rfl
        | cons u us ih =>
          intro hn
          have h1 : j ≠ u := fun z => hn (by rw [z]; exact List.mem_cons_self)
          have h2 : j ∉ us := fun z => hn (List.mem_cons_of_mem _ z)
          unfold wipe
          rw [ih h2, List.set_comm _ _ h1]
      rw [q vs hj, List.set_set]
theorem psets_len {js : List Nat} (h : PSets js ds ρ ρ') : ds.length = js.length := by
  induction h with
  | nil => rfl
  | cons h t ih => rw [List.length_cons, List.length_cons, ih]
theorem gL_run {K : PySem.W.Frag} {B F H : Hp} {js : List Nat} (h : PSets js ds ρ ρ') : ∀ (xs : List V) (σ : L2.St), EnvB K B F H σ ρ → DpAll K B xs ds →
    ∀ Q : L2.St → Hp → Prop, (∀ σ', EnvB K B F H σ' ρ' → (∀ vs, (∀ j ∈ js, j ∈ vs) → wipe σ' vs = wipe σ vs) → Q σ' H) → gL js xs σ H Q := by
  induction h with
  | nil =>
    intro xs σ I al Q q
    cases al
    exact ⟨rfl, q σ I fun _ _ => rfl⟩
  | cons h t ih =>
    intro xs σ I al Q q
    rename_i j js d ds ρ ρ1 ρ2
    cases al with
    | cons hd tl =>
      rename_i v vs
      refine ⟨v, vs, rfl, ?_⟩
      have I1 := I.setv j h.eq.2 hd
      rw [h.eq.1] at I1
      refine ih vs _ I1 tl Q fun σ' I' hw => q σ' I' fun us hu => ?_
      rw [hw us fun i hi => hu i (List.mem_cons_of_mem _ hi), wipe_set (hu j List.mem_cons_self)]
theorem gPat_run {K : PySem.W.Frag} {B F H : Hp} {σ : L2.St} {p : Pat} {v : V} (hp : PSet1 p d ρ ρ') (I : EnvB K B F H σ ρ) (hd : Dp K B v d) {Q : L2.St → Hp → Prop} (q : ∀ σ', EnvB K B F H σ' ρ' → (∀ vs, (∀ j ∈ p.slots, j ∈ vs) → wipe σ' vs = wipe σ vs) → Q σ' H) : gPat K p v σ H Q := by
  cases hp with
  | nm h =>
    have I1 := I.setv _ h.eq.2 hd
    rw [h.eq.1] at I1
    exact q _ I1 fun vs hv => wipe_set (hv _ List.mem_cons_self)
  | tp h =>
    cases hd with
    | tup s al =>
      refine ⟨_, _, rfl, Evl.ex_t I.bh s, by rw [dpa_len al]; exact psets_len h, ?_⟩
      exact gL_run h _ σ I al Q q
theorem pat_nm {K : PySem.W.Frag} (c : Cv M N sc X) {j : Nat} (hj : Get j x N) (hl : locB sc x = true := by decide +kernel) : PG X (.Name x pos) (gPat K (.nm j)) :=
  pg_name (by rw [c.hN]; exact c.nd) (by rw [c.hN]; exact hj.at) (c.loc hl).1 (c.loc hl).2
theorem pat_tp2 {kk : Nat} (c : Cn M k N sc X W) {j1 j2 : Nat} (h1 : Get j1 x N) (h2 : Get j2 y N) (hl : (locB sc x && locB sc y) = true := by decide +kernel) : PG X (.Tuple [.Name x p2, .Name y p3] kk pos) (gPat M.K (.tp [j1, j2])) := by
  rw [Bool.and_eq_true] at hl
  rw [← c.eK]
  exact pg_tup c.calm (pgs_cons (pat_nm (K := X.K) c.toCv h1 hl.1) (pgs_cons (pat_nm (K := X.K) c.toCv h2 hl.2) pgs_nil))
theorem pat_tp3 {kk : Nat} (c : Cn M k N sc X W) {j1 j2 j3 : Nat} (h1 : Get j1 x N) (h2 : Get j2 y N) (h3 : Get j3 z N) (hl : (locB sc x && locB sc y && locB sc z) = true := by decide +kernel) : PG X (.Tuple [.Name x p2, .Name y p3, .Name z p4] kk pos) (gPat M.K (.tp [j1, j2, j3])) := by
  rw [Bool.and_eq_true, Bool.and_eq_true] at hl
  rw [← c.eK]
  exact pg_tup c.calm (pgs_cons (pat_nm (K := X.K) c.toCv h1 hl.1.1) (pgs_cons (pat_nm (K := X.K) c.toCv h2 hl.1.2) (pgs_cons (pat_nm (K := X.K) c.toCv h3 hl.2) pgs_nil)))
theorem pat_tp4 {kk : Nat} {u : Str} (c : Cn M k N sc X W) {j1 j2 j3 j4 : Nat} (h1 : Get j1 x N) (h2 : Get j2 y N) (h3 : Get j3 z N) (h4 : Get j4 u N) (hl : (locB sc x && locB sc y && locB sc z && locB sc u) = true := by decide +kernel) : PG X (.Tuple [.Name x p2, .Name y p3, .Name z p4, .Name u p5] kk pos) (gPat M.K (.tp [j1, j2, j3, j4])) := by
  rw [Bool.and_eq_true, Bool.and_eq_true, Bool.and_eq_true] at hl
  rw [← c.eK]
  exact pg_tup c.calm (pgs_cons (pat_nm (K := X.K) c.toCv h1 hl.1.1.1) (pgs_cons (pat_nm (K := X.K) c.toCv h2 hl.1.1.2) (pgs_cons (pat_nm (K := X.K) c.toCv h3 hl.1.2) (pgs_cons (pat_nm (K := X.K) c.toCv h4 hl.2) pgs_nil))))

theorem dv (c : Cv M N sc X) (hi : Get i x N) (hd : Get i (.v d) ρ) (hv : (visB sc x && okN x) = true := by decide +kernel) : DE M X (.Name x pos) ρ d := de_var c i hi.at hd.at hv
theorem de_ite (h : DT M X e ρ bb) (h1 : bb = true → DE M X a ρ d1) (h2 : bb = false → DE M X b ρ d2) : DE M X (.IfExp e a b pos) ρ (if bb = true then d1 else d2) := by
  cases bb with
  | true => exact de_if h (fun _ => h1 rfl) (fun z => by cases z)
  | false => exact de_if h (fun z => by cases z) (fun _ => h2 rfl)
theorem de_iteI {m n : Int} (h : DT M X e ρ bb) (h1 : bb = true → DE M X a ρ (.int m)) (h2 : bb = false → DE M X b ρ (.int n)) : DE M X (.IfExp e a b pos) ρ (.int (if bb = true then m else n)) := by
  cases bb with
  | true => exact de_if h (fun _ => h1 rfl) (fun z => by cases z)
  | false => exact de_if h (fun z => by cases z) (fun _ => h2 rfl)
theorem de_iteS {m n : Str} (h : DT M X e ρ bb) (h1 : bb = true → DE M X a ρ (.str m)) (h2 : bb = false → DE M X b ρ (.str n)) : DE M X (.IfExp e a b pos) ρ (.str (if bb = true then m else n)) := by
  cases bb with
  | true => exact de_if h (fun _ => h1 rfl) (fun z => by cases z)
  | false => exact de_if h (fun z => by cases z) (fun _ => h2 rfl)
theorem atD_of {α : Type} {xs : List α} {z : Int} {j : Nat} {v : α} (e : z = (j : Int)) (h : xs[j]? = some v) : atI xs z = some v := by
  subst e
  have hj := (List.getElem?_eq_some_iff.mp h).1
  unfold atI
  rw [Evl.ixN_nat hj]
  exact h
/-! ### blocks -/
theorem db_nil (h : ∃ ρ', Le ρ' ρ ∧ nx ρ') : DB M X W [] ρ nx R := db_of pss_nil fun B F σ H I E f => by
  obtain ⟨ρ', l, q⟩ := h
  exact f.nx ρ' σ H B q (Same.refl B) (I.le l)
theorem db_end (h : nx ρ) : DB M X W [] ρ nx R := db_nil ⟨ρ, Le.refl ρ, h⟩
theorem db_cons {st : Stmt} {rest : List Stmt} (h : DS M X W st ρ (fun ρ' => DB M X W rest ρ' nx R) R) : DB M X W (st :: rest) ρ nx R := db_of (pss_cons ps_sem pb_sem) fun B F σ H I E f =>
  h B F σ H I _ ⟨fun ρ' σ' H' B' q s I' => q B' F σ' H' I' E (f.mono s), fun d ρ' x σ' H' B' q s I' p => f.rt d ρ' x σ' H' B' q s I' p, f.ex, fun ρ' σ' H' B' q s I' => f.bk ρ' σ' H' B' q s I', fun ρ' σ' H' B' q s I' => f.ct ρ' σ' H' B' q s I'⟩
/-- a word between a statement and the rest -/
theorem db_cut {st : Stmt} {rest : List Stmt} (Mid : List Sl → Prop) (h : DS M X W st ρ Mid R) (h2 : ∀ ρ', Mid ρ' → DB M X W rest ρ' nx R) : DB M X W (st :: rest) ρ nx R := db_of (pss_cons ps_sem pb_sem) fun B F σ H I E f =>
  h B F σ H I _ ⟨fun ρ' σ' H' B' q s I' => h2 ρ' q B' F σ' H' I' E (f.mono s), fun d ρ' x σ' H' B' q s I' p => f.rt d ρ' x σ' H' B' q s I' p, f.ex, fun ρ' σ' H' B' q s I' => f.bk ρ' σ' H' B' q s I', fun ρ' σ' H' B' q s I' => f.ct ρ' σ' H' B' q s I'⟩
theorem db_le {st : List Stmt} (l : Le ρ' ρ) (h : DB M X W st ρ' nx R) : DB M X W st ρ nx R := fun B F σ H I E f => h B F σ H (I.le l) E f
theorem ds_le {st : Stmt} (l : Le ρ' ρ) (h : DS M X W st ρ' nx R) : DS M X W st ρ nx R := fun B F σ H I E f => h B F σ H (I.le l) E f
theorem db_freeze {st : List Stmt} (i : Nat) (hi : ρ[i]? = some (.ol ds)) (h : DB M X W st (ρ.set i (.v (.list ds))) nx R) : DB M X W st ρ nx R := fun B F σ H I E f => by
  obtain ⟨B', s, I'⟩ := I.freeze hi
  exact h B' F σ H I' E (f.mono s)
theorem ds_weak {st : Stmt} {nx' : List Sl → Prop} {R' : REnds} (h : DS M X W st ρ nx' R') (h1 : ∀ ρ, nx' ρ → nx ρ) (h2 : ∀ d ρ, R'.rt d ρ → R.rt d ρ) (h3 : ∀ C, R'.ex C → R.ex C) (h4 : ∀ ρ, R'.bk ρ → R.bk ρ) (h5 : ∀ ρ, R'.ct ρ → R.ct ρ) : DS M X W st ρ nx R := fun B F σ H I E f =>
  h B F σ H I E ⟨fun ρ' σ' H' B' q s I' => f.nx ρ' σ' H' B' (h1 _ q) s I', fun d ρ' x σ' H' B' q s I' p => f.rt d ρ' x σ' H' B' (h2 _ _ q) s I' p, fun C ρ' σ' H' B' q s I' => f.ex C ρ' σ' H' B' (h3 _ q) s I', fun ρ' σ' H' B' q s I' => f.bk ρ' σ' H' B' (h4 _ q) s I', fun ρ' σ' H' B' q s I' => f.ct ρ' σ' H' B' (h5 _ q) s I'⟩

/-! ### statements -/
theorem ds_ret (he : DE M X e ρ d) (h : R.rt d ρ) : DS M X W (.Return (some e) pos) ρ nx R := ds_of (ps_ret pe_sem) fun B F σ H I E f => he B F σ H I _ fun v H' B' s I' p => f.rt d ρ v σ H' B' h s I' p
theorem ds_retN (h : R.rt .none ρ) : DS M X W (.Return none pos) ρ nx R := ds_of ps_retN fun B F σ H I E f => f.rt .none ρ .non σ H B h (Same.refl B) I .non
theorem ds_if {p q : List Stmt} (hc : DT M X e ρ bb) (h1 : bb = true → DB M X W p ρ nx R) (h2 : bb = false → DB M X W q ρ nx R) : DS M X W (.If e p q pos) ρ nx R := ds_of (ps_if pt_sem pb_sem pb_sem) fun B F σ H I E f => hc B F σ H I _ fun H' B' s I' => by
  cases bb with
  | true =>
    rw [if_pos rfl]
    exact h1 rfl B' F σ H' I' E (f.mono s)
  | false =>
    rw [if_neg Bool.false_ne_true]
    exact h2 rfl B' F σ H' I' E (f.mono s)
theorem ds_expr (he : DE M X e ρ d) (h : nx ρ) (hs : swapsWith e none pos.line X.env = pure false := by rfl) : DS M X W (.Expr e pos) ρ nx R := ds_of (ps_expr pe_sem hs) fun B F σ H I E f => he B F σ H I _ fun v H' B' s I' p => f.nx ρ σ H' B' h s I'
theorem ds_pass (h : nx ρ) : DS M X W (.Pass pos) ρ nx R := ds_of ps_pass fun B F σ H I E f => f.nx ρ σ H B h (Same.refl B) I
theorem ds_break (h : R.bk ρ) : DS M X W (.Break pos) ρ nx R := ds_of ps_break fun B F σ H I E f => f.bk ρ σ H B h (Same.refl B) I
theorem ds_cont (h : R.ct ρ) : DS M X W (.Continue pos) ρ nx R := ds_of ps_continue fun B F σ H I E f => f.ct ρ σ H B h (Same.refl B) I
theorem ds_set (c : Cv M N sc X) (hi : Get i x N) (he : DE M X e ρ d) (hr : SetAt i (.v d) ρ ρ') (h : nx ρ') (hs : swapsWith e (some (.Name x p2)) pos.line X.env = pure false := by rfl) (hl : locB sc x = true := by decide +kernel) : DS M X W (.Assign [.Name x p2] e pos) ρ nx R :=
  ds_of (ps_set (by rw [c.hN]; exact c.nd) (by rw [c.hN]; exact hi.at) (c.loc hl).1 pe_sem hs (c.loc hl).2) fun B F σ H I E f => he B F σ H I _ fun v H' B' s I' p => f.nx _ _ H' B' h s (by rw [← hr.eq.1]; exact I'.setv i hr.eq.2 p)
theorem ds_setN (c : Cv M N sc X) (hi : Get i x N) (he : DN M X e ρ ds) (hr : SetAt i (.ol ds) ρ ρ') (h : nx ρ') (hs : swapsWith e (some (.Name x p2)) pos.line X.env = pure false := by rfl) (hl : locB sc x = true := by decide +kernel) : DS M X W (.Assign [.Name x p2] e pos) ρ nx R :=
  ds_of (ps_set (by rw [c.hN]; exact c.nd) (by rw [c.hN]; exact hi.at) (c.loc hl).1 pe_sem hs (c.loc hl).2) fun B F σ H I E f => he B F σ H I _ fun p xs H' B' s hf I' hd => f.nx _ _ H' B' h s (by rw [← hr.eq.1]; exact I'.setol hf hd i hr.eq.2)
/-- target = e, the target of names -/
theorem ds_asg {tg : Expr} {p : Pat} (hg : PG X tg (gPat M.K p)) (he : DE M X e ρ d) (hp : PSet1 p d ρ ρ') (h : nx ρ') (hs : swapsWithSole [tg] e pos.line X.env = pure false := by rfl) (hw : swappedStores [tg] e X.env = pure none := by rfl)
    (h1 : (assignEach [tg] X.env).map (·.2) = [assign tg X.env] := by rfl) : DS M X W (.Assign [tg] e pos) ρ nx R := ds_of (ps_asg pe_sem hg hs hw h1) fun B F σ H I E f => he B F σ H I _ fun v H' B' s I' p =>
  gPat_run hp I' p fun σ' I2 _ => f.nx _ σ' H' B' h s I2
/-- what swappedStores tells, by the scope -/
def env0 (sc : Scope) : Env := { scope := sc, locals := 0, globals := 0, cells := [] }
theorem sw_env {env : Env} {ts : List Expr} (hs : env.scope = sc) : swappedStores ts e env = swappedStores ts e (env0 sc) := by
  have hn : env.kindOf = (env0 sc).kindOf := by funext id; rw [← hs]; rfl
  have hb : env.blockKind = (env0 sc).blockKind := by unfold Env.blockKind; rw [← hs]; rfl
  unfold swappedStores
  rw [hb, hn]
theorem sw1_env {env : Env} {t : Option Expr} {n : Nat} (hs : env.scope = sc) : swapsWith e t n env = swapsWith e t n (env0 sc) := by
  have hn : env.kindOf = (env0 sc).kindOf := by funext id; rw [← hs]; rfl
  have hb : env.blockKind = (env0 sc).blockKind := by unfold Env.blockKind; rw [← hs]; rfl
  have h0 : env.scope.kind = (env0 sc).scope.kind := by rw [hs]; rfl
  unfold swapsWith
  rw [hb, hn, h0]
/-- a, b = x, y of local names -/
theorem ds_par2 {k1 k2 : Nat} (c : Cn M k N sc X W) (hi : Get i x N) (hj : Get j y N) (ha : DA M X [a, b] ρ [d1, d2]) (hr : SetAt i (.v d1) ρ ρ') (hr2 : SetAt j (.v d2) ρ' ρ'') (h : nx ρ'') (hij : i ≠ j := by decide)
    (hw : swappedStores [.Tuple [.Name x p2, .Name y p3] k1 p4] (.Tuple [a, b] k2 p5) (env0 sc) = pure (some [x, y]) := by kernel_rfl) (hl : (sc.names.lookup x == some .local && sc.names.lookup y == some .local) = true := by decide +kernel) :
    DS M X W (.Assign [.Tuple [.Name x p2, .Name y p3] k1 p4] (.Tuple [a, b] k2 p5) pos) ρ nx R := by
  rw [Bool.and_eq_true, beq_iff_eq, beq_iff_eq] at hl
  refine ds_of (ps_par c.calm (by rw [c.hN]; exact c.nd) (by rw [c.hN]; exact hi.at) (by rw [c.hN]; exact hj.at) hij (by rw [c.hs]; exact hl.1) (by rw [c.hs]; exact hl.2) pa_sem (by rw [sw_env c.hs]; exact hw)) fun B F σ H I E f => ha B F σ H I _ fun vs H' B' s I' p => ?_
  obtain ⟨v, w, rfl, q1, q2⟩ := inv_all2 p
  have I1 := I'.setv i hr.eq.2 q1
  rw [hr.eq.1] at I1
  have I2 := I1.setv j hr2.eq.2 q2
  rw [hr2.eq.1] at I2
  exact ⟨v, w, rfl, f.nx _ _ H' B' h s I2⟩
theorem inv_all3 {K : PySem.W.Frag} {B : Hp} {vs : List V} (h : DpAll K B vs [d1, d2, d3]) : ∃ u v w, vs = [u, v, w] ∧ Dp K B u d1 ∧ Dp K B v d2 ∧ Dp K B w d3 := by
  cases h with
  | cons h t =>
    obtain ⟨v, w, rfl, q1, q2⟩ := inv_all2 t
    exact ⟨_, v, w, rfl, h, q1, q2⟩
theorem ds_par3 {k1 k2 : Nat} {p6 : Pos} {ρ3 : List Sl} (c : Cn M k N sc X W) (hi : Get i x N) (hj : Get j y N) (hk : Get l z N) (ha : DA M X [a, b, c'] ρ [d1, d2, d3]) (hr : SetAt i (.v d1) ρ ρ') (hr2 : SetAt j (.v d2) ρ' ρ'') (hr3 : SetAt l (.v d3) ρ'' ρ3) (h : nx ρ3) (hij : i ≠ j := by decide) (hil : i ≠ l := by decide) (hjl : j ≠ l := by decide)
    (hw : swappedStores [.Tuple [.Name x p2, .Name y p3, .Name z p6] k1 p4] (.Tuple [a, b, c'] k2 p5) (env0 sc) = pure (some [x, y, z]) := by kernel_rfl) (hl : (sc.names.lookup x == some .local && sc.names.lookup y == some .local && sc.names.lookup z == some .local) = true := by decide +kernel) :
    DS M X W (.Assign [.Tuple [.Name x p2, .Name y p3, .Name z p6] k1 p4] (.Tuple [a, b, c'] k2 p5) pos) ρ nx R := by
  rw [Bool.and_eq_true, Bool.and_eq_true, beq_iff_eq, beq_iff_eq, beq_iff_eq] at hl
  refine ds_of (ps_par3 c.calm (by rw [c.hN]; exact c.nd) (by rw [c.hN]; exact hi.at) (by rw [c.hN]; exact hj.at) (by rw [c.hN]; exact hk.at) hij hil hjl (by rw [c.hs]; exact hl.1.1) (by rw [c.hs]; exact hl.1.2) (by rw [c.hs]; exact hl.2) pa_sem (by rw [sw_env c.hs]; exact hw)) fun B F σ H I E f => ha B F σ H I _ fun vs H' B' s I' p => ?_
  obtain ⟨u, v, w, rfl, q1, q2, q3⟩ := inv_all3 p
  have I1 := I'.setv i hr.eq.2 q1
  rw [hr.eq.1] at I1
  have I2 := I1.setv j hr2.eq.2 q2
  rw [hr2.eq.1] at I2
  have I3 := I2.setv l hr3.eq.2 q3
  rw [hr3.eq.1] at I3
  exact ⟨u, v, w, rfl, f.nx _ _ H' B' h s I3⟩

/-! ### what is walked -/
def Yields (M : Md) (B1 : Hp) (J : It) (ds : List PyData) : Prop := ∀ B2 F H2 σ2 ρ2, Same B1 B2 → EnvB M.K B2 F H2 σ2 ρ2 →
  (∀ (i : Nat) d, ds[i]? = some d → J.go i H2 ∧ ∀ x H3, J.yld i H2 x H3 → ∃ B3, Same B2 B3 ∧ EnvB M.K B3 F H3 σ2 ρ2 ∧ Dp M.K B3 x d) ∧ J.stop ds.length H2
def DI (M : Md) (X : Cx) (tg iter : Expr) (ρ : List Sl) (ds : List PyData) : Prop := ∀ B F σ H, EnvB M.K B F H σ ρ → ∀ R : It → Hp → Prop, (∀ J H1 B1, Same B B1 → EnvB M.K B1 F H1 σ ρ → Yields M B1 J ds → R J H1) → semI X tg iter σ H R
theorem di_of {tg iter : Expr} {t : TI} (h : PI X tg iter t) (hv : ∀ B F σ H, EnvB M.K B F H σ ρ → ∀ Rk : It → Hp → Prop, (∀ J H1 B1, Same B B1 → EnvB M.K B1 F H1 σ ρ → Yields M B1 J ds → Rk J H1) → t σ H Rk) : DI M X tg iter ρ ds :=
  fun B F σ H I R r pins s iv => h.run pins s σ H R iv (hv B F σ H I R r)
theorem DI.eq {tg iter : Expr} {es : List PyData} (h : DI M X tg iter ρ ds) (q : ds = es) : DI M X tg iter ρ es := q ▸ h
theorem di_list {tg : Expr} (c : Cv M N sc X) (h : DE M X e ρ (.list ds)) : DI M X tg e ρ ds := di_of (pi_list pe_sem) fun B F σ H I Rk r => h B F σ H I _ fun v H1 B1 s I1 p => by
  cases p with
  | lst sq al =>
    rename_i a xs
    refine ⟨a, rfl, ⟨xs, by rw [c.eK]; exact I1.bh.seq sq⟩, r _ H1 B1 s I1 fun B2 F2 H2 σ2 ρ2 s2 I2 => ⟨fun i d hd => ?_, ?_⟩⟩
    · have hq : SqL X.K H2 a xs := by rw [c.eK]; exact (s2.trans I2.bh).seq sq
      obtain ⟨w, hw, hp⟩ := dpa_getd al i d hd
      refine ⟨⟨xs, w, hq, hw⟩, fun x H3 hy => ?_⟩
      obtain ⟨rfl, hx⟩ := hy
      have e : x = w := Option.some.inj ((hx xs hq).symm.trans hw)
      subst e
      exact ⟨B2, Same.refl B2, I2, dp_mono s2 hp⟩
    · exact ⟨xs, by rw [c.eK]; exact (s2.trans I2.bh).seq sq, by rw [dpa_len al]; exact Nat.le_refl _⟩
theorem di_tup {tg : Expr} (c : Cv M N sc X) (h : DE M X e ρ (.tuple ds)) : DI M X tg e ρ ds := di_of (pi_tup pe_sem) fun B F σ H I Rk r => h B F σ H I _ fun v H1 B1 s I1 p => by
  cases p with
  | tup sq al =>
    rename_i a xs
    refine ⟨a, rfl, ⟨xs, by rw [c.eK]; exact Evl.ex_t I1.bh sq⟩, r _ H1 B1 s I1 fun B2 F2 H2 σ2 ρ2 s2 I2 => ⟨fun i d hd => ?_, ?_⟩⟩
    · have hq : SqT X.K H2 a xs := by rw [c.eK]; exact Evl.ex_t (s2.trans I2.bh) sq
      obtain ⟨w, hw, hp⟩ := dpa_getd al i d hd
      refine ⟨⟨xs, w, hq, hw⟩, fun x H3 hy => ?_⟩
      obtain ⟨rfl, hx⟩ := hy
      have e : x = w := Option.some.inj ((hx xs hq).symm.trans hw)
      subst e
      exact ⟨B2, Same.refl B2, I2, dp_mono s2 hp⟩
    · exact ⟨xs, by rw [c.eK]; exact Evl.ex_t (s2.trans I2.bh) sq, by rw [dpa_len al]; exact Nat.le_refl _⟩
def rangeD (lo : Int) (n : Nat) : List PyData := (List.range n).map fun i => .int (lo + (i : Nat))
theorem rangeD_get {lo : Int} {n : Nat} {i : Nat} (h : (rangeD lo n)[i]? = some d) : i < n ∧ d = .int (lo + i) := by
  unfold rangeD at h
  rw [List.getElem?_map] at h
  cases hq : (List.range n)[i]? with
  | none => rw [hq] at h; cases h
  | some m =>
    rw [hq] at h
    obtain ⟨h1, h2⟩ := List.getElem?_eq_some_iff.mp hq
    rw [List.getElem_range] at h2
    rw [List.length_range] at h1
    subst h2
    exact ⟨h1, (Option.some.inj h).symm⟩
theorem rangeD_len {lo : Int} {n : Nat} : (rangeD lo n).length = n := by unfold rangeD; rw [List.length_map, List.length_range]
theorem yields_rng {B1 : Hp} {lo : Int} {n : Nat} : Yields M B1 (Itr lo n) (rangeD lo n) := fun B2 F2 H2 σ2 ρ2 s2 I2 => ⟨fun i d hd => by
    obtain ⟨h1, h2⟩ := rangeD_get hd
    refine ⟨h1, fun x H3 hy => ?_⟩
    obtain ⟨rfl, rfl⟩ := hy
    subst h2
    exact ⟨B2, Same.refl B2, I2, .int _⟩, by rw [rangeD_len]; exact Nat.le_refl _⟩
theorem di_range1 {tg : Expr} {q : Pos} {m : Int} (c : Cv M N sc X) (hm : M.mg "range" = none) (ha : DE M X e ρ (.int m)) (hb : -(2 ^ 62) ≤ m ∧ m < 2 ^ 62) (hs : starEach (e :: []) X.env = (false, eval e X.env) :: starEach [] X.env := by rfl) (hg : glB sc "range" = true := by decide +kernel) : DI M X tg (.Call (.Name "range" q) [e] [] pos) ρ (rangeD 0 m.toNat) :=
  di_of (pi_range1 (c.gl hg) (by rw [c.eg]; exact hm) (pa_cons pe_sem pa_nil hs) hs) fun B F σ H I Rk r => ha B F σ H I _ fun v H1 B1 s I1 p => by
    cases p
    exact ⟨m, rfl, hb.1, hb.2, r _ H1 B1 s I1 yields_rng⟩
theorem di_range2 {tg : Expr} {q : Pos} {m n : Int} (c : Cv M N sc X) (hm : M.mg "range" = none) (ha : DE M X a ρ (.int m)) (hn : DE M X b ρ (.int n)) (hb : -(2 ^ 62) ≤ m ∧ m < 2 ^ 62 ∧ -(2 ^ 62) ≤ n ∧ n < 2 ^ 62)
    (hs : starEach (a :: [b]) X.env = (false, eval a X.env) :: starEach [b] X.env := by rfl) (hs2 : starEach (b :: []) X.env = (false, eval b X.env) :: starEach [] X.env := by rfl) (hg : glB sc "range" = true := by decide +kernel) : DI M X tg (.Call (.Name "range" q) [a, b] [] pos) ρ (rangeD m (n - m).toNat) :=
  di_of (pi_range2 (c.gl hg) (by rw [c.eg]; exact hm) (pa_cons pe_sem (pa_cons pe_sem pa_nil hs2) hs) (by rw [hs, hs2]; rfl) hs2) fun B F σ H I Rk r => ha B F σ H I _ fun v H1 B1 s I1 p => by
    cases p
    refine hn B1 F σ H1 I1 _ fun v2 H2 B2 s2 I2 p2 => ?_
    cases p2
    exact ⟨m, n, rfl, hb, r _ H2 B2 (s.trans s2) I2 yields_rng⟩

/-! ### loops -/
theorem ds_for {tg iter : Expr} {body : List Stmt} {p : Pat} (c : Cn M k N sc X W) (hg : PG X tg (gPat M.K p)) (hi : DI M X tg iter ρ ds) (inv : Nat → List Sl → Prop) (h0 : inv 0 ρ)
    (hs : ∀ (i : Nat) d ρ', ds[i]? = some d → inv i ρ' → ∃ ρ'', PSet1 p d ρ' ρ'' ∧ DB M X W body ρ'' (inv (i + 1)) { R with ct := inv (i + 1), bk := nx }) (hd : ∀ ρ', inv ds.length ρ' → nx ρ')
    (hf : ∀ x, foldedSetIterable iter X.env x = pure x := by intro _; rfl) : DS M X W (.For tg iter body [] pos) ρ nx R :=
  ds_of (ps_for c.po c.calm pi_sem hg pb_sem hf) fun B F σ H I E f => hi B F σ H I _ fun J H1 B1 s1 I1 hy => by
    refine ⟨fun i m σ' H' => m = ds.length - i ∧ i ≤ ds.length ∧ ∃ ρ' B', inv i ρ' ∧ Same B1 B' ∧ EnvB M.K B' F H' σ' ρ', ⟨ds.length, by simp, Nat.zero_le _, ρ, B1, h0, Same.refl B1, I1⟩, ?_⟩
    rintro i m σ' H' ⟨rfl, hi, ρ', B', hv, s', I'⟩
    obtain ⟨hgo, hst⟩ := hy B' F H' σ' ρ' s' I'
    by_cases hlt : i < ds.length
    · obtain ⟨go, yl⟩ := hgo i ds[i] (List.getElem?_eq_getElem hlt)
      obtain ⟨ρ'', hp, hb⟩ := hs i ds[i] ρ' (List.getElem?_eq_getElem hlt) hv
      refine .inr ⟨go, fun σ2 H2 => ∃ ρ2 B2, inv (i + 1) ρ2 ∧ Same B1 B2 ∧ EnvB M.K B2 F H2 σ2 ρ2, fun σ2 H2 hN => ?_, fun x H3 hy3 => ?_⟩
      · exact ⟨ds.length - (i + 1), by omega, rfl, hlt, hN⟩
      · obtain ⟨B3, s3, I3, p3⟩ := yl x H3 hy3
        refine gPat_run hp I3 p3 fun σ4 I4 _ => hb B3 F σ4 H3 I4 _ ?_
        have sB : Same B B3 := (s1.trans s').trans s3
        exact ⟨fun ρ5 σ5 H5 B5 q s5 I5 => ⟨ρ5, B5, q, (s'.trans s3).trans s5, I5⟩, fun d ρ5 x σ5 H5 B5 q s5 I5 p5 => f.rt d ρ5 x σ5 H5 B5 q (sB.trans s5) I5 p5, fun C ρ5 σ5 H5 B5 q s5 I5 => f.ex C ρ5 σ5 H5 B5 q (sB.trans s5) I5,
          fun ρ5 σ5 H5 B5 q s5 I5 => f.nx ρ5 σ5 H5 B5 q (sB.trans s5) I5, fun ρ5 σ5 H5 B5 q s5 I5 => ⟨ρ5, B5, q, (s'.trans s3).trans s5, I5⟩⟩
    · have e : i = ds.length := by omega
      subst e
      exact .inl ⟨hst, f.nx ρ' σ' H' B' (hd ρ' hv) (s1.trans s') I'⟩
theorem ds_while {body : List Stmt} (c : Cn M k N sc X W) (inv : Nat → List Sl → Prop) (m0 : Nat) (h0 : inv m0 ρ)
    (hs : ∀ m ρ', inv m ρ' → ∃ bb, DT M X e ρ' bb ∧ (bb = true → DB M X W body ρ' (fun ρ2 => ∃ m', m' < m ∧ inv m' ρ2) { R with ct := fun ρ2 => ∃ m', m' < m ∧ inv m' ρ2, bk := nx }) ∧ (bb = false → nx ρ')) : DS M X W (.While e body [] pos) ρ nx R :=
  ds_of (ps_while c.po pt_sem pb_sem) fun B F σ H I E f => by
    refine ⟨fun m σ' H' => ∃ ρ' B', inv m ρ' ∧ Same B B' ∧ EnvB M.K B' F H' σ' ρ', ⟨m0, ρ, B, h0, Same.refl B, I⟩, ?_⟩
    rintro m σ' H' ⟨ρ', B', hv, s', I'⟩
    obtain ⟨bb, hc, h1, h2⟩ := hs m ρ' hv
    refine hc B' F σ' H' I' _ fun H2 B2 s2 I2 => ?_
    cases bb with
    | true =>
      rw [if_pos rfl]
      refine ⟨fun σ5 H5 => ∃ ρ5 B5, (∃ m', m' < m ∧ inv m' ρ5) ∧ Same B B5 ∧ EnvB M.K B5 F H5 σ5 ρ5, fun σ5 H5 hN => ?_, h1 rfl B2 F σ' H2 I2 _ ?_⟩
      · obtain ⟨ρ5, B5, ⟨m', hm, hv5⟩, s5, I5⟩ := hN
        exact ⟨m', hm, ρ5, B5, hv5, s5, I5⟩
      · have sB : Same B B2 := s'.trans s2
        exact ⟨fun ρ5 σ5 H5 B5 q s5 I5 => ⟨ρ5, B5, q, sB.trans s5, I5⟩, fun d ρ5 x σ5 H5 B5 q s5 I5 p5 => f.rt d ρ5 x σ5 H5 B5 q (sB.trans s5) I5 p5, fun C ρ5 σ5 H5 B5 q s5 I5 => f.ex C ρ5 σ5 H5 B5 q (sB.trans s5) I5,
          fun ρ5 σ5 H5 B5 q s5 I5 => f.nx ρ5 σ5 H5 B5 q (sB.trans s5) I5, fun ρ5 σ5 H5 B5 q s5 I5 => ⟨ρ5, B5, q, sB.trans s5, I5⟩⟩
    | false =>
      rw [if_neg Bool.false_ne_true]
      exact f.nx ρ' σ' H2 B2 (h2 rfl) (s'.trans s2) I2
end

/-! ### defs -/
inductive Out where
  | ret (d : PyData)
  | exc (C : Addr)
def spX (K : PySem.W.Frag) (φ : List PyData → Out → Prop) : Sp := fun vs H Q E => ∃ ds o B F, φ ds o ∧ DpAll K B vs ds ∧ Same B H ∧ Same F H ∧ (∀ a u, F a = some u → B a = none) ∧
  (∀ d, o = .ret d → ∀ v H' B', Same B B' → Same F H' → Same B' H' → (∀ a u, F a = some u → B' a = none) → Dp K B' v d → Q v H') ∧ (∀ C, o = .exc C → ∀ H', Same B H' → Same F H' → E (.ref C) none H')
structure Fok (M : Md) (k : Nat) (x : Str) (φ : List PyData → Out → Prop) : Prop where
  ex : ∃ f fd ps, FnOk M.P M.w M.K M.mg M.base (L2.CX M.P M.w) k f fd ps (spX M.K φ) ∧ M.mg x = some (.ref f) ∧ PySem.W.keepIn M.K (.ref f) = true ∧ Binds M.K fd ps []
theorem Fok.mono {M : Md} {j k : Nat} {x : Str} {φ : List PyData → Out → Prop} (F : Fok M j x φ) (h : j ≤ k) : Fok M k x φ := by
  obtain ⟨f, fd, ps, h1, h2⟩ := F.ex
  exact ⟨f, fd, ps, h1.mono h, h2⟩
/-- all of H but B -/
def rem (H B : Hp) : Hp := fun a => match B a with
  | none => H a
  | some _ => none
theorem rem_same {H B : Hp} : Same (rem H B) H := fun a o e => by
  unfold rem at e
  split at e
  · exact e
  · cases e
theorem rem_dj {H B : Hp} {a : Addr} {u : HO} (e : rem H B a = some u) : B a = none := by
  unfold rem at e
  split at e
  · assumption
  · cases e
theorem rem_at {H B : Hp} {a : Addr} (h : B a = none) : rem H B a = H a := by unfold rem; rw [h]
/-- behind a call -/
theorem EnvB.back {K : PySem.W.Frag} {B F H B' H' : Hp} {σ : L2.St} {ρ : List Sl} (I : EnvB K B F H σ ρ) (s1 : Same B B') (s2 : Same (rem H B) H') (s3 : Same B' H') (dj : ∀ a u, rem H B a = some u → B' a = none) : EnvB K B' F H' σ ρ := by
  have hr : ∀ a u, F a = some u → rem H B a = some u := fun a u e => by rw [rem_at (I.dj a u e)]; exact I.fh a u e
  refine ⟨I.ln, s3, fun a u e => s2 a u (hr a u e), fun a u e => dj a u (hr a u e), ?_⟩
  obtain ⟨O, h1, h2⟩ := I.own
  have ho : ∀ a t, O a = some t → ∃ u, H a = some u ∧ rem H B a = some u := fun a t e => by
    obtain ⟨q1, _, q3⟩ := h1 a t e
    cases hu : H a with
    | none => exact absurd hu q3
    | some u => exact ⟨u, rfl, by rw [rem_at q1]; exact hu⟩
  refine ⟨O, fun a t e => ?_, fun i s hs => ?_⟩
  · obtain ⟨u, e1, e2⟩ := ho a t e
    exact ⟨dj a u e2, (h1 a t e).2.1, by rw [s2 a u e2]; simp⟩
  · rcases h2 i s hs with z | ⟨x, hx, hh⟩
    · exact .inl z
    · refine .inr ⟨x, hx, hold_mono s1 (fun a t e => ⟨e, ?_⟩) hh⟩
      obtain ⟨u, e1, e2⟩ := ho a _ e
      rw [s2 a u e2, e1]
section
variable {M : Md} {X : Cx} {W : WX} {N : List Str} {sc : Scope} {k kf : Nat} {ρ ρ' ρ'' : List Sl} {d d1 d2 d3 : PyData} {ds : List PyData} {e a b c' : Expr} {es : List Expr} {pos p2 p3 p4 p5 : Pos} {x y z : Str} {φ : List PyData → Out → Prop} {nx : List Sl → Prop} {R : REnds}
/-- a call that returns -/
theorem de_call {q : Pos} (c : Cn M k N sc X W) (G : Fok M kf x φ) (hk : kf ≤ k) (ha : DA M X (e :: es) ρ ds) (hφ : φ ds (.ret d)) (he : starEach (e :: es) X.env = (false, eval e X.env) :: starEach es X.env := by rfl)
    (hpl : (backTo pos (starEach es X.env)).any (·.1) = false := by rfl) (hg : (glB sc x && okN x) = true := by decide +kernel) : DE M X (.Call (.Name x q) (e :: es) [] pos) ρ d := by
  rw [Bool.and_eq_true] at hg
  obtain ⟨f, fd, ps, F, hm, hkp, hb⟩ := G.ex
  have F1 : FnOk X.prog X.w X.K X.mg X.base (L2.CX X.prog X.w) kf f fd ps (spX M.K φ) := by rw [c.eP, c.ew, c.eK, c.eg, c.eb]; exact F
  refine de_of (pe_call F1 (c.room.mono hk) (c.gl hg.1) (by rw [c.eg]; exact hm) (by rw [c.eK]; exact hkp) (by rw [c.eK]; exact hb) .nil (passL (X := X)) pa_sem (okN1 hg.2) he hpl) fun B F σ H I Q q => ?_
  refine ha B F σ H I _ fun vs H1 B1 s1 I1 p1 => ?_
  refine ⟨ds, .ret d, B1, rem H1 B1, hφ, by rw [List.append_nil]; exact p1, I1.bh, rem_same, fun a u => rem_dj, fun d' hd v H' B' t1 t2 t3 t4 pv => ?_, fun C hC => by cases hC⟩
  cases hd
  exact q v H' B' (s1.trans t1) (I1.back t1 t2 t3 t4) pv
theorem de_call0 {q : Pos} (c : Cn M k N sc X W) (G : Fok M kf x φ) (hk : kf ≤ k) (hφ : φ [] (.ret d)) (hg : (glB sc x && okN x) = true := by decide +kernel) : DE M X (.Call (.Name x q) [] [] pos) ρ d := by
  rw [Bool.and_eq_true] at hg
  obtain ⟨f, fd, ps, F, hm, hkp, hb⟩ := G.ex
  have F1 : FnOk X.prog X.w X.K X.mg X.base (L2.CX X.prog X.w) kf f fd ps (spX M.K φ) := by rw [c.eP, c.ew, c.eK, c.eg, c.eb]; exact F
  refine de_of (pe_call0 F1 (c.room.mono hk) (c.gl hg.1) (by rw [c.eg]; exact hm) (by rw [c.eK]; exact hkp) (by rw [c.eK]; exact hb) .nil (passL (X := X)) (okN1 hg.2)) fun B F σ H I Q q => ?_
  refine ⟨[], .ret d, B, rem H B, hφ, .nil, I.bh, rem_same, fun a u => rem_dj, fun d' hd v H' B' t1 t2 t3 t4 pv => ?_, fun C hC => by cases hC⟩
  cases hd
  exact q v H' B' t1 (I.back t1 t2 t3 t4) pv
/-- THE RULE for a def -/
theorem fn_mkD {st : Stmt} {f : Addr} {fd : FuncData} {qual : Str} {ps : List Str} (F : Fun M.K x qual st f fd) (S : FnScope N ps (defScope st)) (hlen : ∀ ds o, φ ds o → ds.length = ps.length)
    (hbody : ∀ (X : Cx) (W : WX) (ds : List PyData) (o : Out), Cn M k N (defScope st) X W → φ ds o → DB M X W (defBody st) (ds.map .v ++ List.replicate (N.length - ds.length) .no) (fun _ => o = .ret .none) { rt := fun d _ => o = .ret d, ex := fun C => o = .exc C }) : FnOk M.P M.w M.K M.mg M.base (L2.CX M.P M.w) (k + 1) f fd ps (spX M.K φ) := by
  refine F.okX S (fun vs H Q E h => ?_) (fun cdv A outer s H vs Q E hr h => ?_)
  · obtain ⟨ds, o, B, F, hφ, al, _⟩ := h
    rw [dpa_len al]
    exact hlen ds o hφ
  · obtain ⟨ds, o, B, F', hφ, al, sB, sF, dj, hret, hexc⟩ := h
    have hps : ps.length ≤ N.length := by have := congrArg List.length S.pre; rw [List.length_take] at this; omega
    have hn := dpa_len al
    have hl := hlen ds o hφ
    have c : Cn M k N (defScope st) (cxOf (L2.CX M.P M.w) M.P M.w M.K M.mg M.base N qual (defScope st) f cdv A outer s H E) (fun cls d _ H => E cls d H) :=
      { eP := rfl, ew := rfl, eK := rfl, eg := rfl, eb := rfl, hN := rfl, nd := S.nd, hs := rfl, kind := S.kind, fn := fun _ _ => rfl, un := by have := hr.un; show _ + 200 < _; simp only [cxOf]; omega, calm := rfl, room := hr, tk := takes_of rfl rfl rfl rfl, po := passes_of rfl }
    refine ⟨_, pb_sem, hbody _ _ ds o c hφ B F' (L2.start N vs) H ?_ _ ?_⟩
    · refine ⟨?_, sB, sF, dj, fun _ => none, (fun a t e => by cases e), fun i s hs => ?_⟩
      · unfold L2.start
        rw [List.length_append, List.length_append, List.length_map, List.length_map, List.length_replicate, List.length_replicate, hn]
      · by_cases hi : i < ds.length
        · rw [List.getElem?_append_left (by simpa using hi), List.getElem?_map] at hs
          cases hq : ds[i]? with
          | none => rw [hq] at hs; cases hs
          | some d =>
            rw [hq] at hs
            cases hs
            obtain ⟨v, hv, hp⟩ := dpa_getd al i d hq
            refine .inr ⟨v, ?_, hp⟩
            unfold L2.start
            rw [List.getElem?_append_left (by rw [List.length_map]; omega), List.getElem?_map, hv]
            rfl
        · rw [List.getElem?_append_right (by simpa using hi), List.getElem?_replicate] at hs
          split at hs
          · cases hs; exact .inl rfl
          · cases hs
    · refine ⟨fun ρ σ' H' B' q t I' => ?_, fun d ρ x σ' H' B' q t I' p => ?_, fun C ρ σ' H' B' q t I' => ?_, fun ρ σ' H' B' q t I' => q.elim, fun ρ σ' H' B' q t I' => q.elim⟩
      · exact hret .none q .non H' B' t I'.fh I'.bh I'.dj .non
      · exact hret d q x H' B' t I'.fh I'.bh I'.dj p
      · exact hexc C q H' (t.trans I'.bh) I'.fh
theorem fok_mk {st : Stmt} {f : Addr} {fd : FuncData} {qual : Str} {ps : List Str} (F : Fun M.K x qual st f fd) (hm : M.mg x = some (.ref f)) (hb : Binds M.K fd ps []) (S : FnScope N ps (defScope st)) (hlen : ∀ ds o, φ ds o → ds.length = ps.length)
    (hbody : ∀ (X : Cx) (W : WX) (ds : List PyData) (o : Out), Cn M k N (defScope st) X W → φ ds o → DB M X W (defBody st) (ds.map .v ++ List.replicate (N.length - ds.length) .no) (fun _ => o = .ret .none) { rt := fun d _ => o = .ret d, ex := fun C => o = .exc C }) : Fok M (k + 1) x φ := by
  exact ⟨f, fd, ps, fn_mkD F S hlen hbody, hm, F.kp, hb⟩
theorem dpa_ints {K : PySem.W.Frag} {B : Hp} : ∀ ns : List Int, DpAll K B (ns.map V.int) (ns.map PyData.int)
  | [] => .nil
  | n :: r => .cons (.int n) (dpa_ints r)
/-- the law's promise, of the script -/
theorem sp_script {K : PySem.W.Frag} {H : Hp} {a : Addr} {ns : List Int} (h : SqL K H a (ns.map V.int)) (hφ : φ [.list (ns.map PyData.int)] (.ret (.bool true))) : spX K φ [.ref a] H (fun v _ => v = .bl true) fun _ _ _ => False :=
  ⟨[.list (ns.map PyData.int)], .ret (.bool true), H, fun _ => none, hφ, .cons (.lst h (dpa_ints ns)) .nil, Same.refl H, (fun _ _ e => by cases e), (fun _ _ e => by cases e), fun d hd v H' B' _ _ _ _ p => by
    cases hd
    cases p
    rfl, fun C hC => by cases hC⟩
theorem cx_no {P : Program} {w : World} {H : Hp} {s : Shared} {u : Value} {s' : Shared} (h : L2.CX P w [] H s (fun _ _ _ => False) u s') : False := by
  obtain ⟨_, _, _, _, _, _, _, _, _, _, _, _, z⟩ := h
  exact z
end
end Dl

namespace K
open PySem PySem.Spec PyProof.Rows L2 Dl
def topS (i : Nat) : Stmt := PySem.Challenge.pw_tagasks_k10_whole_chances.main.body.getD i (.Pass ⟨0, 0, 0, 0⟩)
structure Bl (mg : Str → Option Value) : Prop where
  range : mg "range" = none
  abs : mg "abs" = none
  max : mg "max" = none
  min : mg "min" = none
  len : mg "len" = none
/-! ### the mathematics -/
def Bd (n : Nat) (a : Int) : Prop := a.natAbs < 2 ^ n
theorem gcd_step {a b : Int} (ha : 0 ≤ a) (hb : 0 ≤ b) : Int.gcd b (a % b) = Int.gcd a b := by
  obtain ⟨x, rfl⟩ := Int.eq_ofNat_of_zero_le ha
  obtain ⟨y, rfl⟩ := Int.eq_ofNat_of_zero_le hb
  rw [← Int.natCast_emod]
  show Nat.gcd y (x % y) = Nat.gcd x y
  rw [Nat.gcd_comm y, ← Nat.gcd_rec, Nat.gcd_comm]
def gI (u l : Int) : Int := ((Int.gcd u l : Nat) : Int)
def fU (u l : Int) : Int := u / gI u l
def fL (u l : Int) : Int := l / gI u l
def fr (u l : Int) : PyData := .tuple [.int (fU u l), .int (fL u l)]
theorem gcd_abs {u l : Int} : Int.gcd (if u < 0 then -u else u) l = Int.gcd u l := by
  split
  · unfold Int.gcd; rw [Int.natAbs_neg]
  · rfl
theorem gI_pos {u l : Int} (h : 0 < l) : 0 < gI u l := by
  unfold gI
  have : 0 < Int.gcd u l := Int.gcd_pos_of_ne_zero_right _ (by omega)
  omega
theorem gI_le {u l : Int} (h : 0 < l) : gI u l ≤ l := by
  unfold gI
  exact Int.le_of_dvd h (Int.gcd_dvd_right _ _)
theorem fL_pos {u l : Int} (h : 0 < l) : 0 < fL u l := Int.ediv_pos_of_pos_of_dvd h (by have := gI_pos (u := u) h; omega) (Int.gcd_dvd_right _ _)
theorem div_bd {u g : Int} {n : Nat} (hg : 0 < g) (h : Bd n u) : Bd n (u / g) := by
  unfold Bd at *
  have h1 : (u / g).natAbs ≤ u.natAbs := Int.natAbs_ediv_le_natAbs u g
  omega
theorem fU_bd {u l : Int} {n : Nat} (hl : 0 < l) (h : Bd n u) : Bd n (fU u l) := div_bd (gI_pos hl) h
theorem fL_bd {u l : Int} {n : Nat} (hl : 0 < l) (h : Bd n l) : Bd n (fL u l) := div_bd (gI_pos hl) h
theorem gI_bd {u l : Int} {n : Nat} (hl : 0 < l) (h : Bd n l) : Bd n (gI u l) := by
  unfold Bd at *
  have h1 := gI_le (u := u) hl
  have h2 := gI_pos (u := u) hl
  omega
theorem mul_bd {a b : Int} {n m : Nat} (ha : Bd n a) (hb : Bd m b) : Bd (n + m) (a * b) := wide_lt ha hb
theorem add_bd {a b : Int} {n : Nat} (ha : Bd n a) (hb : Bd n b) : Bd (n + 1) (a + b) := by
  unfold Bd at *
  have h1 : (a + b).natAbs ≤ a.natAbs + b.natAbs := Int.natAbs_add_le a b
  rw [Nat.pow_succ]
  omega
theorem bd_mono {a : Int} {n m : Nat} (h : Bd n a) (hm : n ≤ m) : Bd m a := Nat.lt_of_lt_of_le h (Nat.pow_le_pow_right (by decide) hm)
theorem bd_small {a : Int} (h : -1000000 < a ∧ a < 1000000) : Bd 20 a := by
  unfold Bd
  have e : (2 : Nat) ^ 20 = 1048576 := by decide
  omega
theorem pow_bd {a : Int} {n k : Nat} (h : Bd n a) : Bd (n * k + 1) (a ^ k) := by
  unfold Bd at *
  induction k with
  | zero => rw [Int.pow_zero, Nat.mul_zero]; decide
  | succ k ih =>
    rw [Int.pow_succ, Int.natAbs_mul]
    have e : 2 ^ (n * (k + 1) + 1) = 2 ^ (n * k + 1) * 2 ^ n := by
      rw [← Nat.pow_add]; congr 1; rw [Nat.mul_succ]; omega
    rw [e]
    exact Nat.mul_lt_mul'' ih h
theorem pow_pos' {a : Int} {k : Nat} (h : 0 < a) : 0 < a ^ k := Int.pow_pos h
theorem mulW_of {a b : Int} {n : Nat} (h : n ≤ 100000) (h0 : 0 < n) (ha : Bd n a) (hb : Bd n b) : CMulW a b := wide_mul ha hb h0 h0 (by omega)
/-! means of slots -/
def lowF (m s : Int) : Int := s ^ m.toNat
def quietF (m s : Int) : Int := s * (s - 1) ^ m.toNat
def clearF (m s : Int) : Int := if decide (0 < m) = true then m * s * (s - 1) ^ (m - 1).toNat else 0
def moreF (m s : Int) : Int := s * lowF m s - quietF m s - clearF m s
theorem low_pos {m s : Int} (h : 1 ≤ s) : 0 < lowF m s := Int.pow_pos (by omega)
theorem s_bd {s : Int} (h : 0 ≤ s ∧ s ≤ 64) : Bd 7 s := by
  unfold Bd
  have e : (2 : Nat) ^ 7 = 128 := by decide
  omega
theorem pw_bd {s : Int} {k : Nat} (h : 0 ≤ s ∧ s ≤ 64) (hk : k ≤ 41) : Bd 300 (s ^ k) := bd_mono (pow_bd (k := k) (s_bd h)) (by omega)
theorem low_bd {m s : Int} (h : 1 ≤ s ∧ s ≤ 64) (hm : m ≤ 41) : Bd 300 (lowF m s) := pw_bd ⟨by omega, h.2⟩ (by omega)
theorem quiet_bd {m s : Int} (h : 1 ≤ s ∧ s ≤ 64) (hm : m ≤ 41) : Bd 307 (quietF m s) := bd_mono (mul_bd (s_bd ⟨by omega, h.2⟩) (pw_bd (s := s - 1) (k := m.toNat) ⟨by omega, by omega⟩ (by omega))) (by omega)
theorem clear_bd {m s : Int} (h : 1 ≤ s ∧ s ≤ 64) (hm : 0 ≤ m ∧ m ≤ 41) : Bd 314 (clearF m s) := by
  unfold clearF
  split
  · exact mul_bd (mul_bd (s_bd ⟨hm.1, by omega⟩) (s_bd ⟨by omega, h.2⟩)) (pw_bd (s := s - 1) (k := (m - 1).toNat) ⟨by omega, by omega⟩ (by omega))
  · exact Nat.two_pow_pos _
theorem more_bd {m s : Int} (h : 1 ≤ s ∧ s ≤ 64) (hm : 0 ≤ m ∧ m ≤ 41) : Bd 316 (moreF m s) := by
  have h1 : Bd 314 (s * lowF m s) := bd_mono (mul_bd (s_bd ⟨by omega, h.2⟩) (low_bd (m := m) h hm.2)) (by omega)
  have h2 : Bd 314 (-quietF m s) := by unfold Bd; rw [Int.natAbs_neg]; exact bd_mono (quiet_bd h hm.2) (by omega)
  have h3 : Bd 315 (-clearF m s) := by unfold Bd; rw [Int.natAbs_neg]; exact bd_mono (clear_bd h hm) (by omega)
  have e : moreF m s = s * lowF m s + -quietF m s + -clearF m s := by unfold moreF; omega
  rw [e]
  exact add_bd (add_bd h1 h2) h3
def apF (s : Int) : Nat → Int
  | 0 => 1
  | i + 1 => apF s i * (if s - (0 + (i : Int)) > 0 then s - (0 + (i : Int)) else 0)
theorem ap_bd {s : Int} (h : 0 ≤ s ∧ s ≤ 64) : ∀ k, k ≤ 41 → Bd (7 * k + 1) (apF s k)
  | 0, _ => by show (1 : Int).natAbs < 2 ^ 1; decide
  | k + 1, hk => by
    have h1 := ap_bd h k (by omega)
    have h2 : Bd 7 (if s - (0 + (k : Int)) > 0 then s - (0 + (k : Int)) else 0) := by
      unfold Bd
      have e : (2 : Nat) ^ 7 = 128 := by decide
      split <;> omega
    have e : 7 * (k + 1) + 1 = (7 * k + 1) + 7 := by omega
    rw [e]
    exact mul_bd h1 h2
theorem ap_bd' {s : Int} {k : Nat} (h : 0 ≤ s ∧ s ≤ 64) (hk : k ≤ 41) : Bd 300 (apF s k) := bd_mono (ap_bd h k hk) (by omega)
def bsU (m s : Int) : Int := fU (clearF m s) (lowF m s)
def bsL (m s : Int) : Int := fL (clearF m s) (lowF m s) * s
theorem bsU_bd {m s : Int} (h : 1 ≤ s ∧ s ≤ 64) (hm : 0 ≤ m ∧ m ≤ 41) : Bd 400 (bsU m s) := bd_mono (fU_bd (low_pos h.1) (clear_bd h hm)) (by omega)
theorem bsL_bd {m s : Int} (h : 1 ≤ s ∧ s ≤ 64) (hm : 0 ≤ m ∧ m ≤ 41) : Bd 400 (bsL m s) := bd_mono (mul_bd (fL_bd (low_pos h.1) (low_bd (m := m) h hm.2)) (s_bd ⟨by omega, h.2⟩)) (by omega)
def better (m s t : Int) : Bool := decide (bsU m t * bsL m s < bsU m s * bsL m t)
def bestF (m : Int) : Nat → Int
  | 0 => 1
  | i + 1 => if better m (2 + (i : Int)) (bestF m i) = true then 2 + (i : Int) else bestF m i
theorem best_in {m : Int} : ∀ i : Nat, 1 ≤ bestF m i ∧ bestF m i ≤ i + 1
  | 0 => by show (1 : Int) ≤ 1 ∧ (1 : Int) ≤ 0 + 1; decide
  | i + 1 => by
    have h := best_in (m := m) i
    unfold bestF
    split
    · exact ⟨by omega, by omega⟩
    · exact ⟨h.1, by omega⟩
variable {M : Md}
local macro_rules | `(tactic| walk_at "sd") => `(tactic| first | assumption | omega | decide | (constructor <;> first | assumption | omega | decide))
local macro_rules | `(tactic| walk_at "sz") => `(tactic| first | (simp only [List.length_cons, List.length_nil]; omega) | decide)
local macro_rules | `(tactic| walk_at "tr") => `(tactic| trivial)
local macro_rules | `(tactic| walk_at "rg") => `(tactic| (refine ⟨?_, ?_⟩ <;> omega))
local macro_rules | `(tactic| walk_at "le") => `(tactic| first | exact le_nil | (refine le_same ?_; walk_at "le") | (refine le_drop ?_; walk_at "le"))
local macro_rules | `(tactic| walk_at "o_add") => `(tactic| exact o_add)
local macro_rules | `(tactic| walk_at "o_sub") => `(tactic| exact o_sub)
local macro_rules | `(tactic| walk_at "o_mul") => `(tactic| first | (refine o_mul (.inl ?_); omega) | (refine o_mul (.inr ?_); omega) | (refine o_mulW ?_; walk_at "wide"))
local macro_rules | `(tactic| walk_at "o_mod") => `(tactic| (refine o_mod ?_; omega))
local macro_rules | `(tactic| walk_at "o_fdiv") => `(tactic| first | (refine o_fdiv ?_; constructor <;> omega) | (refine o_fdivW ?_; walk_at "wided"))
local macro_rules | `(tactic| walk_at "o_lt") => `(tactic| exact o_lt)
local macro_rules | `(tactic| walk_at "o_gt") => `(tactic| exact o_gt)
local macro_rules | `(tactic| walk_at "o_ge") => `(tactic| exact o_ge)
local macro_rules | `(tactic| walk_at "o_le") => `(tactic| exact o_le)
local macro_rules | `(tactic| walk_at "o_eq") => `(tactic| first | exact o_eqI | exact o_eqS)
local macro_rules | `(tactic| walk_at "o_ne") => `(tactic| first | exact o_neI | exact o_neS)
local macro_rules | `(tactic| walk_at "ix") => `(tactic| first | exact ix_t (Cn.toCv (by assumption)) rfl | exact ix_l (Cn.toCv (by assumption)) rfl)
local macro_rules | `(tactic| walk_at "c_abs") => `(tactic| exact cl_abs)
local macro_rules | `(tactic| walk_at "c_max") => `(tactic| exact cl_max2 (Cn.calm (by assumption)))
local macro_rules | `(tactic| walk_at "c_min") => `(tactic| exact cl_min2 (Cn.calm (by assumption)))
local macro_rules | `(tactic| walk_at "c_len") => `(tactic| first | exact cl_len_lst (Cn.toCv (by assumption)) | exact cl_len_tup (Cn.toCv (by assumption)))
local macro_rules | `(tactic| walk_at "wide") => `(tactic| first | (refine mulW_of (n := 1500) ?_ ?_ ?_ ?_ <;> first | assumption | omega) | (refine mulW_of (n := 400) ?_ ?_ ?_ ?_ <;> first | assumption | omega))
local macro_rules | `(tactic| walk_at "wided") => `(tactic| exact wide_div (b := 4000) (by assumption) (by assumption) (by omega) (by omega))

abbrev s_power : Stmt := topS 4
abbrev n_power : List Str := ["base", "many", "found", "turn"]
theorem sc_power : FnScope n_power ["base", "many"] (defScope s_power) := ⟨rfl, rfl, rfl, by decide +kernel, rfl, by decide +kernel, by decide +kernel⟩
def phi_power : List PyData → Out → Prop := fun ds o => ∃ (b n : Int), ds = [.int b, .int n] ∧ (-(2 ^ 64) < b ∧ b < 2 ^ 64) ∧ (-100000 ≤ n ∧ n ≤ 100000) ∧ o = .ret (.int (b ^ n.toNat))
theorem i_power {b n : Int} (h1 : -(2 ^ 64) < b ∧ b < 2 ^ 64) (h2 : -100000 ≤ n ∧ n ≤ 100000) : phi_power [.int b, .int n] (.ret (.int (b ^ n.toNat))) := ⟨_, _, rfl, h1, h2, rfl⟩
local macro_rules | `(tactic| walk_at "f_power") => `(tactic| exact i_power (by walk_at "sd") (by walk_at "sd"))
theorem ok_power (g : Bl M.mg) {f : Addr} {fd : FuncData} (F : Fun M.K "power" "power" s_power f fd) (hm : M.mg "power" = some (.ref f)) (hb : Binds M.K fd ["base", "many"] []) : Fok M 1 "power" phi_power := by
  refine fok_mk (N := n_power) F hm hb sc_power (fun ds o h => by obtain ⟨b, n, rfl, _⟩ := h; rfl) fun X W ds o c h => ?_
  obtain ⟨b, n, rfl, h1, h2, rfl⟩ := h
  show DB M X W _ [.v (.int b), .v (.int n), .no, .no] _ _
  refine db_cons (ds_set c.toCv G2 de_int T2 ?_)
  refine db_cons (ds_for c (pat_nm c.toCv G3) (di_range1 c.toCv g.range (dv c.toCv G1 G1) (by walk_at "rg")) (fun i ρ => ρ = [.v (.int b), .v (.int n), .v (.int (b ^ i)), .no]) (by rw [Int.pow_zero]) (fun i d ρ' hd hi => ?_) (fun ρ' hi => ?_))
  · skip
    subst hi
    obtain ⟨hi, rfl⟩ := rangeD_get hd
    refine ⟨_, .nm T3, ?_⟩
    refine db_cons (ds_set c.toCv G2 (de_bin (dv c.toCv G2 G2) (dv c.toCv G0 G0) (by walk_at "o_mul")) T2 ?_)
    exact db_nil ⟨_, le_same (le_same (le_eq (by rw [Int.pow_succ]) (le_drop le_nil))), rfl⟩
  rw [rangeD_len] at hi
  subst hi
  exact db_cons (ds_ret (dv c.toCv G2 G2) rfl)
abbrev s_divisor : Stmt := topS 6
abbrev n_divisor : List Str := ["one", "other"]
theorem sc_divisor : FnScope n_divisor ["one", "other"] (defScope s_divisor) := ⟨rfl, rfl, rfl, by decide +kernel, rfl, by decide +kernel, by decide +kernel⟩
def phi_divisor : List PyData → Out → Prop := fun ds o => ∃ (a b : Int), ds = [.int a, .int b] ∧ (0 ≤ a) ∧ (0 ≤ b) ∧ o = .ret (.int ((Int.gcd a b : Nat) : Int))
theorem i_divisor {a b : Int} (h1 : 0 ≤ a) (h2 : 0 ≤ b) : phi_divisor [.int a, .int b] (.ret (.int ((Int.gcd a b : Nat) : Int))) := ⟨_, _, rfl, h1, h2, rfl⟩
local macro_rules | `(tactic| walk_at "f_divisor") => `(tactic| exact i_divisor (by walk_at "sd") (by walk_at "sd"))
theorem ok_divisor (g : Bl M.mg) {f : Addr} {fd : FuncData} (F : Fun M.K "divisor" "divisor" s_divisor f fd) (hm : M.mg "divisor" = some (.ref f)) (hb : Binds M.K fd ["one", "other"] []) : Fok M 1 "divisor" phi_divisor := by
  refine fok_mk (N := n_divisor) F hm hb sc_divisor (fun ds o h => by obtain ⟨a, b, rfl, _⟩ := h; rfl) fun X W ds o c h => ?_
  obtain ⟨a, b, rfl, h1, h2, rfl⟩ := h
  show DB M X W _ [.v (.int a), .v (.int b)] _ _
  refine db_cons (ds_while c (fun m ρ => ∃ a' b' : Int, ρ = [.v (.int a'), .v (.int b')] ∧ 0 ≤ a' ∧ 0 ≤ b' ∧ Int.gcd a' b' = Int.gcd a b ∧ m = b'.toNat) b.toNat ⟨a, b, rfl, h1, h2, rfl, rfl⟩ (fun m ρ' hi => ?_))
  obtain ⟨a', b', rfl, q1, q2, q3, rfl⟩ := hi
  refine ⟨_, (dt_tru c.toCv (dv c.toCv G1 G1) (by walk_at "tr")), fun hb => ?_, fun hb => ?_⟩
  · skip
    have hb' : b' ≠ 0 := by simpa [tru] using hb
    have l1 := Int.emod_nonneg a' hb'
    have l2 := Int.emod_lt_of_pos a' (show 0 < b' by omega)
    refine db_cons (ds_par2 c G0 G1 (da_cons (dv c.toCv G1 G1) (da_cons (de_bin (dv c.toCv G0 G0) (dv c.toCv G1 G1) (by walk_at "o_mod")) da_nil)) T0 T1 ?_)
    exact db_end ⟨(a' % b').toNat, by omega, b', a' % b', rfl, q2, l1, by rw [← q3, gcd_step q1 q2], rfl⟩
  have hb' : b' = 0 := by simpa [tru] using hb
  subst hb'
  exact db_cons (ds_ret (dv c.toCv G0 G0) (by rw [← q3]; unfold Int.gcd; simp; omega))
abbrev s_fraction : Stmt := topS 7
abbrev n_fraction : List Str := ["upper", "lower", "by"]
theorem sc_fraction : FnScope n_fraction ["upper", "lower"] (defScope s_fraction) := ⟨rfl, rfl, rfl, by decide +kernel, rfl, by decide +kernel, by decide +kernel⟩
def phi_fraction : List PyData → Out → Prop := fun ds o => ∃ (u l : Int), ds = [.int u, .int l] ∧ (0 < l) ∧ (Bd 4000 l) ∧ o = .ret (fr u l)
theorem i_fraction {u l : Int} (h1 : 0 < l) (h2 : Bd 4000 l) : phi_fraction [.int u, .int l] (.ret (fr u l)) := ⟨_, _, rfl, h1, h2, rfl⟩
local macro_rules | `(tactic| walk_at "f_fraction") => `(tactic| exact i_fraction (by walk_at "sd") (by walk_at "sd"))
theorem ok_fraction (g : Bl M.mg) (Gdivisor : Fok M 1 "divisor" phi_divisor) {f : Addr} {fd : FuncData} (F : Fun M.K "fraction" "fraction" s_fraction f fd) (hm : M.mg "fraction" = some (.ref f)) (hb : Binds M.K fd ["upper", "lower"] []) : Fok M 2 "fraction" phi_fraction := by
  refine fok_mk (N := n_fraction) F hm hb sc_fraction (fun ds o h => by obtain ⟨u, l, rfl, _⟩ := h; rfl) fun X W ds o c h => ?_
  obtain ⟨u, l, rfl, h1, h2, rfl⟩ := h
  show DB M X W _ [.v (.int u), .v (.int l), .no] _ _
  refine db_cons (ds_set c.toCv G2 (de_call c Gdivisor (by decide) (da_cons (de_callB c.toCv g.abs boot_abs (da_cons (dv c.toCv G0 G0) da_nil) (by walk_at "c_abs")) (da_cons (dv c.toCv G1 G1) da_nil)) (by walk_at "f_divisor")) T2 ?_)
  rw [gcd_abs]
  have g1 := gI_pos (u := u) h1
  have g2 := gI_bd (u := u) h1 h2
  unfold gI at g1 g2
  exact db_cons (ds_ret (de_tup (da_cons (de_bin (dv c.toCv G0 G0) (dv c.toCv G2 G2) (by walk_at "o_fdiv")) (da_cons (de_bin (dv c.toCv G1 G1) (dv c.toCv G2 G2) (by walk_at "o_fdiv")) da_nil)) (by walk_at "sz")) rfl)
abbrev s_mean_counts : Stmt := topS 9
abbrev n_mean_counts : List Str := ["many", "size", "lower", "quiet", "clear"]
theorem sc_mean_counts : FnScope n_mean_counts ["many", "size"] (defScope s_mean_counts) := ⟨rfl, rfl, rfl, by decide +kernel, rfl, by decide +kernel, by decide +kernel⟩
def phi_mean_counts : List PyData → Out → Prop := fun ds o => ∃ (m s : Int), ds = [.int m, .int s] ∧ (0 ≤ m ∧ m ≤ 41) ∧ (1 ≤ s ∧ s ≤ 64) ∧ o = .ret (.tuple [fr (quietF m s) (lowF m s), fr (clearF m s) (lowF m s), fr (moreF m s) (lowF m s)])
theorem i_mean_counts {m s : Int} (h1 : 0 ≤ m ∧ m ≤ 41) (h2 : 1 ≤ s ∧ s ≤ 64) : phi_mean_counts [.int m, .int s] (.ret (.tuple [fr (quietF m s) (lowF m s), fr (clearF m s) (lowF m s), fr (moreF m s) (lowF m s)])) := ⟨_, _, rfl, h1, h2, rfl⟩
local macro_rules | `(tactic| walk_at "f_mean_counts") => `(tactic| exact i_mean_counts (by walk_at "sd") (by walk_at "sd"))
theorem ok_mean_counts (g : Bl M.mg) (Gpower : Fok M 1 "power" phi_power) (Gfraction : Fok M 2 "fraction" phi_fraction) {f : Addr} {fd : FuncData} (F : Fun M.K "mean_counts" "mean_counts" s_mean_counts f fd) (hm : M.mg "mean_counts" = some (.ref f)) (hb : Binds M.K fd ["many", "size"] []) : Fok M 3 "mean_counts" phi_mean_counts := by
  refine fok_mk (N := n_mean_counts) F hm hb sc_mean_counts (fun ds o h => by obtain ⟨m, s, rfl, _⟩ := h; rfl) fun X W ds o c h => ?_
  obtain ⟨m, s, rfl, h1, h2, rfl⟩ := h
  show DB M X W _ [.v (.int m), .v (.int s), .no, .no, .no] _ _
  have p1 : 0 < s ^ m.toNat := low_pos h2.1
  have p2 : Bd 4000 (s ^ m.toNat) := bd_mono (low_bd h2 h1.2) (by omega)
  have p3 : 0 ≤ m * s ∧ m * s ≤ 2624 := ⟨Int.mul_nonneg h1.1 (by omega), by have := Int.mul_le_mul h1.2 h2.2 (by omega) (by omega); omega⟩
  refine db_cons (ds_set c.toCv G2 (de_call c Gpower (by decide) (da_cons (dv c.toCv G1 G1) (da_cons (dv c.toCv G0 G0) da_nil)) (by walk_at "f_power")) T2 ?_)
  refine db_cons (ds_set c.toCv G3 (de_bin (dv c.toCv G1 G1) (de_call c Gpower (by decide) (da_cons (de_bin (dv c.toCv G1 G1) de_int (by walk_at "o_sub")) (da_cons (dv c.toCv G0 G0) da_nil)) (by walk_at "f_power")) (by walk_at "o_mul")) T3 ?_)
  refine db_cons (ds_set c.toCv G4 (de_iteI (dt_cmp (dv c.toCv G0 G0) de_int (by walk_at "o_gt") (nomark _)) (fun hb => (de_bin (de_bin (dv c.toCv G0 G0) (dv c.toCv G1 G1) (by walk_at "o_mul")) (de_call c Gpower (by decide) (da_cons (de_bin (dv c.toCv G1 G1) de_int (by walk_at "o_sub")) (da_cons (de_bin (dv c.toCv G0 G0) de_int (by walk_at "o_sub")) da_nil)) (by walk_at "f_power")) (by walk_at "o_mul"))) (fun hb => de_int)) T4 ?_)
  exact db_cons (ds_ret (de_tup (da_cons (de_call c Gfraction (by decide) (da_cons (dv c.toCv G3 G3) (da_cons (dv c.toCv G2 G2) da_nil)) (by walk_at "f_fraction")) (da_cons (de_call c Gfraction (by decide) (da_cons (dv c.toCv G4 G4) (da_cons (dv c.toCv G2 G2) da_nil)) (by walk_at "f_fraction")) (da_cons (de_call c Gfraction (by decide) (da_cons (de_bin (de_bin (de_bin (dv c.toCv G1 G1) (dv c.toCv G2 G2) (by walk_at "o_mul")) (dv c.toCv G3 G3) (by walk_at "o_sub")) (dv c.toCv G4 G4) (by walk_at "o_sub")) (da_cons (dv c.toCv G2 G2) da_nil)) (by walk_at "f_fraction")) da_nil))) (by walk_at "sz")) rfl)
abbrev s_apart : Stmt := topS 10
abbrev n_apart : List Str := ["many", "size", "upper", "k"]
theorem sc_apart : FnScope n_apart ["many", "size"] (defScope s_apart) := ⟨rfl, rfl, rfl, by decide +kernel, rfl, by decide +kernel, by decide +kernel⟩
def phi_apart : List PyData → Out → Prop := fun ds o => ∃ (m s : Int), ds = [.int m, .int s] ∧ (0 ≤ m ∧ m ≤ 41) ∧ (1 ≤ s ∧ s ≤ 64) ∧ o = .ret (fr (apF s m.toNat) (lowF m s))
theorem i_apart {m s : Int} (h1 : 0 ≤ m ∧ m ≤ 41) (h2 : 1 ≤ s ∧ s ≤ 64) : phi_apart [.int m, .int s] (.ret (fr (apF s m.toNat) (lowF m s))) := ⟨_, _, rfl, h1, h2, rfl⟩
local macro_rules | `(tactic| walk_at "f_apart") => `(tactic| exact i_apart (by walk_at "sd") (by walk_at "sd"))
theorem ok_apart (g : Bl M.mg) (Gpower : Fok M 1 "power" phi_power) (Gfraction : Fok M 2 "fraction" phi_fraction) {f : Addr} {fd : FuncData} (F : Fun M.K "apart" "apart" s_apart f fd) (hm : M.mg "apart" = some (.ref f)) (hb : Binds M.K fd ["many", "size"] []) : Fok M 3 "apart" phi_apart := by
  refine fok_mk (N := n_apart) F hm hb sc_apart (fun ds o h => by obtain ⟨m, s, rfl, _⟩ := h; rfl) fun X W ds o c h => ?_
  obtain ⟨m, s, rfl, h1, h2, rfl⟩ := h
  show DB M X W _ [.v (.int m), .v (.int s), .no, .no] _ _
  have p1 : 0 < s ^ m.toNat := low_pos h2.1
  have p2 : Bd 4000 (s ^ m.toNat) := bd_mono (low_bd h2 h1.2) (by omega)
  refine db_cons (ds_set c.toCv G2 de_int T2 ?_)
  refine db_cons (ds_for c (pat_nm c.toCv G3) (di_range1 c.toCv g.range (dv c.toCv G0 G0) (by walk_at "rg")) (fun i ρ => ρ = [.v (.int m), .v (.int s), .v (.int (apF s i)), .no]) rfl (fun i d ρ' hd hi => ?_) (fun ρ' hi => ?_))
  · skip
    subst hi
    obtain ⟨hi, rfl⟩ := rangeD_get hd
    refine ⟨_, .nm T3, ?_⟩
    refine db_cons (ds_set c.toCv G2 (de_bin (dv c.toCv G2 G2) (de_callB c.toCv g.max boot_max (da_cons de_int (da_cons (de_bin (dv c.toCv G1 G1) (dv c.toCv G3 G3) (by walk_at "o_sub")) da_nil)) (by walk_at "c_max")) (by walk_at "o_mul")) T2 ?_)
    exact db_nil ⟨_, by walk_at "le", rfl⟩
  rw [rangeD_len] at hi
  subst hi
  exact db_cons (ds_ret (de_call c Gfraction (by decide) (da_cons (dv c.toCv G2 G2) (da_cons (de_call c Gpower (by decide) (da_cons (dv c.toCv G1 G1) (da_cons (dv c.toCv G0 G0) da_nil)) (by walk_at "f_power")) da_nil)) (by walk_at "f_fraction")) rfl)
abbrev s_by_slot : Stmt := topS 11
abbrev n_by_slot : List Str := ["many", "size", "upper", "lower"]
theorem sc_by_slot : FnScope n_by_slot ["many", "size"] (defScope s_by_slot) := ⟨rfl, rfl, rfl, by decide +kernel, rfl, by decide +kernel, by decide +kernel⟩
def phi_by_slot : List PyData → Out → Prop := fun ds o => ∃ (m s : Int), ds = [.int m, .int s] ∧ (0 ≤ m ∧ m ≤ 41) ∧ (1 ≤ s ∧ s ≤ 64) ∧ o = .ret (.tuple [.int (bsU m s), .int (bsL m s)])
theorem i_by_slot {m s : Int} (h1 : 0 ≤ m ∧ m ≤ 41) (h2 : 1 ≤ s ∧ s ≤ 64) : phi_by_slot [.int m, .int s] (.ret (.tuple [.int (bsU m s), .int (bsL m s)])) := ⟨_, _, rfl, h1, h2, rfl⟩
local macro_rules | `(tactic| walk_at "f_by_slot") => `(tactic| exact i_by_slot (by walk_at "sd") (by walk_at "sd"))
theorem ok_by_slot (g : Bl M.mg) (Gmean_counts : Fok M 3 "mean_counts" phi_mean_counts) {f : Addr} {fd : FuncData} (F : Fun M.K "by_slot" "by_slot" s_by_slot f fd) (hm : M.mg "by_slot" = some (.ref f)) (hb : Binds M.K fd ["many", "size"] []) : Fok M 4 "by_slot" phi_by_slot := by
  refine fok_mk (N := n_by_slot) F hm hb sc_by_slot (fun ds o h => by obtain ⟨m, s, rfl, _⟩ := h; rfl) fun X W ds o c h => ?_
  obtain ⟨m, s, rfl, h1, h2, rfl⟩ := h
  show DB M X W _ [.v (.int m), .v (.int s), .no, .no] _ _
  refine db_cons (ds_asg (pat_tp2 c G2 G3) (de_ix (de_call c Gmean_counts (by decide) (da_cons (dv c.toCv G0 G0) (da_cons (dv c.toCv G1 G1) da_nil)) (by walk_at "f_mean_counts")) de_int (by walk_at "ix")) (.tp (.cons T2 (.cons T3 .nil))) ?_)
  exact db_cons (ds_ret (de_tup (da_cons (dv c.toCv G2 G2) (da_cons (de_bin (dv c.toCv G3 G3) (dv c.toCv G1 G1) (by walk_at "o_mul")) da_nil)) (by walk_at "sz")) rfl)
abbrev s_best_size : Stmt := topS 12
abbrev n_best_size : List Str := ["many", "most", "best", "size", "one", "other"]
theorem sc_best_size : FnScope n_best_size ["many", "most"] (defScope s_best_size) := ⟨rfl, rfl, rfl, by decide +kernel, rfl, by decide +kernel, by decide +kernel⟩
def phi_best_size : List PyData → Out → Prop := fun ds o => ∃ (m t : Int), ds = [.int m, .int t] ∧ (0 ≤ m ∧ m ≤ 41) ∧ (1 ≤ t ∧ t ≤ 64) ∧ o = .ret (.int (bestF m (t - 1).toNat))
theorem i_best_size {m t : Int} (h1 : 0 ≤ m ∧ m ≤ 41) (h2 : 1 ≤ t ∧ t ≤ 64) : phi_best_size [.int m, .int t] (.ret (.int (bestF m (t - 1).toNat))) := ⟨_, _, rfl, h1, h2, rfl⟩
local macro_rules | `(tactic| walk_at "f_best_size") => `(tactic| exact i_best_size (by walk_at "sd") (by walk_at "sd"))
theorem ok_best_size (g : Bl M.mg) (Gby_slot : Fok M 4 "by_slot" phi_by_slot) {f : Addr} {fd : FuncData} (F : Fun M.K "best_size" "best_size" s_best_size f fd) (hm : M.mg "best_size" = some (.ref f)) (hb : Binds M.K fd ["many", "most"] []) : Fok M 5 "best_size" phi_best_size := by
  refine fok_mk (N := n_best_size) F hm hb sc_best_size (fun ds o h => by obtain ⟨m, t, rfl, _⟩ := h; rfl) fun X W ds o c h => ?_
  obtain ⟨m, t, rfl, h1, h2, rfl⟩ := h
  show DB M X W _ [.v (.int m), .v (.int t), .no, .no, .no, .no] _ _
  refine db_cons (ds_set c.toCv G2 de_int T2 ?_)
  refine db_cons (ds_for c (pat_nm c.toCv G3) (di_range2 c.toCv g.range de_int (de_bin (dv c.toCv G1 G1) de_int (by walk_at "o_add")) (by walk_at "rg")) (fun i ρ => ρ = [.v (.int m), .v (.int t), .v (.int (bestF m i)), .no, .no, .no]) rfl (fun i d ρ' hd hi => ?_) (fun ρ' hi => ?_))
  · skip
    subst hi
    obtain ⟨hi, rfl⟩ := rangeD_get hd
    have q0 := best_in (m := m) i
    have q1 := bsU_bd (m := m) (s := 2 + (i : Int)) ⟨by omega, by omega⟩ h1
    have q2 := bsL_bd (m := m) (s := 2 + (i : Int)) ⟨by omega, by omega⟩ h1
    have q3 := bsU_bd (m := m) (s := bestF m i) ⟨by omega, by omega⟩ h1
    have q4 := bsL_bd (m := m) (s := bestF m i) ⟨by omega, by omega⟩ h1
    refine ⟨_, .nm T3, ?_⟩
    refine db_cons (ds_par2 c G4 G5 (da_cons (de_call c Gby_slot (by decide) (da_cons (dv c.toCv G0 G0) (da_cons (dv c.toCv G3 G3) da_nil)) (by walk_at "f_by_slot")) (da_cons (de_call c Gby_slot (by decide) (da_cons (dv c.toCv G0 G0) (da_cons (dv c.toCv G2 G2) da_nil)) (by walk_at "f_by_slot")) da_nil)) T4 T5 ?_)
    refine db_cut (fun ρ => ρ = [.v (.int m), .v (.int t), .v (.int (bestF m (i + 1))), .no, .no, .no]) (ds_if (dt_cmp (de_bin (de_ix (dv c.toCv G4 G4) de_int (by walk_at "ix")) (de_ix (dv c.toCv G5 G5) de_int (by walk_at "ix")) (by walk_at "o_mul")) (de_bin (de_ix (dv c.toCv G5 G5) de_int (by walk_at "ix")) (de_ix (dv c.toCv G4 G4) de_int (by walk_at "ix")) (by walk_at "o_mul")) (by walk_at "o_gt") (nomark _)) (fun hb => ?_) (fun hb => ?_)) (fun ρ' hi => ?_)
    · skip
      have e : bestF m (i + 1) = 2 + (i : Int) := if_pos hb
      refine db_cons (ds_set c.toCv G2 (dv c.toCv G3 G3) T2 ?_)
      exact db_nil ⟨_, le_same (le_same (le_eq (by rw [e]) (le_drop (le_drop (le_drop le_nil))))), rfl⟩
    · skip
      have e : bestF m (i + 1) = bestF m i := if_neg (by intro z; rw [show better m (2 + (i : Int)) (bestF m i) = _ from hb] at z; cases z)
      exact db_nil ⟨_, le_same (le_same (le_eq (by rw [e]) (le_drop (le_drop (le_drop le_nil))))), rfl⟩
    subst hi
    exact db_end rfl
  rw [rangeD_len] at hi
  subst hi
  exact db_cons (ds_ret (dv c.toCv G2 G2) (by rw [show t + 1 - 2 = t - 1 by omega]))
abbrev s_alone : Stmt := topS 13
abbrev n_alone : List Str := ["many", "size"]
theorem sc_alone : FnScope n_alone ["many", "size"] (defScope s_alone) := ⟨rfl, rfl, rfl, by decide +kernel, rfl, by decide +kernel, by decide +kernel⟩
def phi_alone : List PyData → Out → Prop := fun ds o => ∃ (m s : Int), ds = [.int m, .int s] ∧ (1 ≤ m ∧ m ≤ 41) ∧ (1 ≤ s ∧ s ≤ 64) ∧ o = .ret (fr ((s - 1) ^ (m - 1).toNat) (s ^ (m - 1).toNat))
theorem i_alone {m s : Int} (h1 : 1 ≤ m ∧ m ≤ 41) (h2 : 1 ≤ s ∧ s ≤ 64) : phi_alone [.int m, .int s] (.ret (fr ((s - 1) ^ (m - 1).toNat) (s ^ (m - 1).toNat))) := ⟨_, _, rfl, h1, h2, rfl⟩
local macro_rules | `(tactic| walk_at "f_alone") => `(tactic| exact i_alone (by walk_at "sd") (by walk_at "sd"))
theorem ok_alone (g : Bl M.mg) (Gpower : Fok M 1 "power" phi_power) (Gfraction : Fok M 2 "fraction" phi_fraction) {f : Addr} {fd : FuncData} (F : Fun M.K "alone" "alone" s_alone f fd) (hm : M.mg "alone" = some (.ref f)) (hb : Binds M.K fd ["many", "size"] []) : Fok M 3 "alone" phi_alone := by
  refine fok_mk (N := n_alone) F hm hb sc_alone (fun ds o h => by obtain ⟨m, s, rfl, _⟩ := h; rfl) fun X W ds o c h => ?_
  obtain ⟨m, s, rfl, h1, h2, rfl⟩ := h
  show DB M X W _ [.v (.int m), .v (.int s)] _ _
  have p1 : 0 < s ^ (m - 1).toNat := low_pos h2.1
  have p2 : Bd 4000 (s ^ (m - 1).toNat) := bd_mono (low_bd h2 (m := m - 1) (by omega)) (by omega)
  refine db_cons (ds_if (dt_cmp (dv c.toCv G0 G0) de_int (by walk_at "o_lt") (nomark _)) (fun hb => ?_) (fun hb => db_end ?_))
  · exact absurd (of_decide_eq_true hb) (by omega)
  exact db_cons (ds_ret (de_call c Gfraction (by decide) (da_cons (de_call c Gpower (by decide) (da_cons (de_bin (dv c.toCv G1 G1) de_int (by walk_at "o_sub")) (da_cons (de_bin (dv c.toCv G0 G0) de_int (by walk_at "o_sub")) da_nil)) (by walk_at "f_power")) (da_cons (de_call c Gpower (by decide) (da_cons (dv c.toCv G1 G1) (da_cons (de_bin (dv c.toCv G0 G0) de_int (by walk_at "o_sub")) da_nil)) (by walk_at "f_power")) da_nil)) (by walk_at "f_fraction")) rfl)
def cellF (ns : List Int) (k : Int) : Int := ns.getD k.toNat 0
theorem cell_ix {ns : List Int} {k : Int} (h0 : 0 ≤ k) (h : k < ns.length) : atI (ns.map PyData.int) k = some (.int (cellF ns k)) := by
  have e : k = ((k.toNat : Nat) : Int) := by omega
  have hl : k.toNat < ns.length := by omega
  refine atD_of (z := k) (j := k.toNat) e ?_
  rw [List.getElem?_map, List.getElem?_eq_getElem hl]
  unfold cellF
  rw [List.getD_eq_getElem?_getD, List.getElem?_eq_getElem hl]
  rfl
local macro_rules | `(tactic| walk_at "ix") => `(tactic| exact ix_l (Cn.toCv (by assumption)) (cell_ix (by omega) (by assumption)))

abbrev s__law_cell : Stmt := topS 15
abbrev n__law_cell : List Str := ["script", "k"]
theorem sc__law_cell : FnScope n__law_cell ["script", "k"] (defScope s__law_cell) := ⟨rfl, rfl, rfl, by decide +kernel, rfl, by decide +kernel, by decide +kernel⟩
def phi__law_cell : List PyData → Out → Prop := fun ds o => ∃ (ns : List Int) (k : Int), ds = [.list (ns.map PyData.int), .int k] ∧ (0 ≤ k ∧ k ≤ 100) ∧ o = .ret (.int (cellF ns k))
theorem i__law_cell {ns : List Int} {k : Int} (h1 : 0 ≤ k ∧ k ≤ 100) : phi__law_cell [.list (ns.map PyData.int), .int k] (.ret (.int (cellF ns k))) := ⟨_, _, rfl, h1, rfl⟩
local macro_rules | `(tactic| walk_at "f__law_cell") => `(tactic| exact i__law_cell (by walk_at "sd"))
theorem ok__law_cell (g : Bl M.mg) {f : Addr} {fd : FuncData} (F : Fun M.K "_law_cell" "_law_cell" s__law_cell f fd) (hm : M.mg "_law_cell" = some (.ref f)) (hb : Binds M.K fd ["script", "k"] []) : Fok M 1 "_law_cell" phi__law_cell := by
  refine fok_mk (N := n__law_cell) F hm hb sc__law_cell (fun ds o h => by obtain ⟨ns, k, rfl, _⟩ := h; rfl) fun X W ds o c h => ?_
  obtain ⟨ns, k, rfl, h1, rfl⟩ := h
  show DB M X W _ [.v (.list (ns.map PyData.int)), .v (.int k)] _ _
  refine db_cons (ds_if (dt_cmp (dv c.toCv G1 G1) (de_callB c.toCv g.len boot_len (da_cons (dv c.toCv G0 G0) da_nil) (by walk_at "c_len")) (by walk_at "o_lt") (nomark _)) (fun hb => ?_) (fun hb => db_end ?_))
  · skip
    have hk : k < ns.length := by simpa using hb
    exact db_cons (ds_ret (de_ix (dv c.toCv G0 G0) (dv c.toCv G1 G1) (by walk_at "ix")) rfl)
  refine db_cons (ds_ret de_int ?_)
  show Out.ret (PyData.int (cellF ns k)) = Out.ret (PyData.int 0)
  have hk : ¬ k < ns.length := by simpa using hb
  unfold cellF
  rw [List.getD_eq_getElem?_getD, List.getElem?_eq_none (by omega)]
  rfl
def mixF (c p m : Int) : Int := (c * 48271 % p) * (c * 48271 % p + 7) % p % m
theorem mix_in {c p m : Int} (h : 0 < m) : 0 ≤ mixF c p m ∧ mixF c p m < m := ⟨Int.emod_nonneg _ (by omega), Int.emod_lt_of_pos _ h⟩
abbrev s__law_mix : Stmt := topS 16
abbrev n__law_mix : List Str := ["cell", "prime", "many", "blend"]
theorem sc__law_mix : FnScope n__law_mix ["cell", "prime", "many"] (defScope s__law_mix) := ⟨rfl, rfl, rfl, by decide +kernel, rfl, by decide +kernel, by decide +kernel⟩
def phi__law_mix : List PyData → Out → Prop := fun ds o => ∃ (w p m : Int), ds = [.int w, .int p, .int m] ∧ (0 < p ∧ p < 100000) ∧ (0 < m) ∧ o = .ret (.int (mixF w p m))
theorem i__law_mix {w p m : Int} (h1 : 0 < p ∧ p < 100000) (h2 : 0 < m) : phi__law_mix [.int w, .int p, .int m] (.ret (.int (mixF w p m))) := ⟨_, _, _, rfl, h1, h2, rfl⟩
local macro_rules | `(tactic| walk_at "f__law_mix") => `(tactic| exact i__law_mix (by walk_at "sd") (by walk_at "sd"))
theorem ok__law_mix (g : Bl M.mg) {f : Addr} {fd : FuncData} (F : Fun M.K "_law_mix" "_law_mix" s__law_mix f fd) (hm : M.mg "_law_mix" = some (.ref f)) (hb : Binds M.K fd ["cell", "prime", "many"] []) : Fok M 1 "_law_mix" phi__law_mix := by
  refine fok_mk (N := n__law_mix) F hm hb sc__law_mix (fun ds o h => by obtain ⟨w, p, m, rfl, _⟩ := h; rfl) fun X W ds o c h => ?_
  obtain ⟨w, p, m, rfl, h1, h2, rfl⟩ := h
  show DB M X W _ [.v (.int w), .v (.int p), .v (.int m), .no] _ _
  refine db_cons (ds_set c.toCv G3 (de_bin (de_bin (dv c.toCv G0 G0) de_int (by walk_at "o_mul")) (dv c.toCv G1 G1) (by walk_at "o_mod")) T3 ?_)
  have b1 := Int.emod_nonneg (w * 48271) (show p ≠ 0 by omega)
  have b2 := Int.emod_lt_of_pos (w * 48271) (show 0 < p by omega)
  exact db_cons (ds_ret (de_bin (de_bin (de_bin (dv c.toCv G3 G3) (de_bin (dv c.toCv G3 G3) de_int (by walk_at "o_add")) (by walk_at "o_mul")) (dv c.toCv G1 G1) (by walk_at "o_mod")) (dv c.toCv G2 G2) (by walk_at "o_mod")) rfl)
abbrev s__law_fraction : Stmt := topS 17
abbrev n__law_fraction : List Str := ["upper", "lower", "one", "other"]
theorem sc__law_fraction : FnScope n__law_fraction ["upper", "lower"] (defScope s__law_fraction) := ⟨rfl, rfl, rfl, by decide +kernel, rfl, by decide +kernel, by decide +kernel⟩
def phi__law_fraction : List PyData → Out → Prop := fun ds o => ∃ (u l : Int), ds = [.int u, .int l] ∧ (0 < l) ∧ (Bd 4000 l) ∧ o = .ret (fr u l)
theorem i__law_fraction {u l : Int} (h1 : 0 < l) (h2 : Bd 4000 l) : phi__law_fraction [.int u, .int l] (.ret (fr u l)) := ⟨_, _, rfl, h1, h2, rfl⟩
local macro_rules | `(tactic| walk_at "f__law_fraction") => `(tactic| exact i__law_fraction (by walk_at "sd") (by walk_at "sd"))
theorem ok__law_fraction (g : Bl M.mg) {f : Addr} {fd : FuncData} (F : Fun M.K "_law_fraction" "_law_fraction" s__law_fraction f fd) (hm : M.mg "_law_fraction" = some (.ref f)) (hb : Binds M.K fd ["upper", "lower"] []) : Fok M 1 "_law_fraction" phi__law_fraction := by
  refine fok_mk (N := n__law_fraction) F hm hb sc__law_fraction (fun ds o h => by obtain ⟨u, l, rfl, _⟩ := h; rfl) fun X W ds o c h => ?_
  obtain ⟨u, l, rfl, h1, h2, rfl⟩ := h
  show DB M X W _ [.v (.int u), .v (.int l), .no, .no] _ _
  refine db_cons (ds_par2 c G2 G3 (da_cons (de_callB c.toCv g.abs boot_abs (da_cons (dv c.toCv G0 G0) da_nil) (by walk_at "c_abs")) (da_cons (dv c.toCv G1 G1) da_nil)) T2 T3 ?_)
  refine db_cons (ds_while c (fun m ρ => ∃ a b : Int, ρ = [.v (.int u), .v (.int l), .v (.int a), .v (.int b)] ∧ 0 ≤ a ∧ 0 ≤ b ∧ Int.gcd a b = Int.gcd u l ∧ m = b.toNat) l.toNat ⟨_, _, rfl, by omega, by omega, gcd_abs, rfl⟩ (fun m ρ' hi => ?_))
  obtain ⟨a, b, rfl, q1, q2, q3, rfl⟩ := hi
  refine ⟨_, (dt_tru c.toCv (dv c.toCv G3 G3) (by walk_at "tr")), fun hb => ?_, fun hb => ?_⟩
  · skip
    have hb' : b ≠ 0 := by simpa [tru] using hb
    have l1 := Int.emod_nonneg a hb'
    have l2 := Int.emod_lt_of_pos a (show 0 < b by omega)
    refine db_cons (ds_par2 c G2 G3 (da_cons (dv c.toCv G3 G3) (da_cons (de_bin (dv c.toCv G2 G2) (dv c.toCv G3 G3) (by walk_at "o_mod")) da_nil)) T2 T3 ?_)
    exact db_end ⟨(a % b).toNat, by omega, b, a % b, rfl, q2, l1, by rw [← q3, gcd_step q1 q2], rfl⟩
  have hb' : b = 0 := by simpa [tru] using hb
  subst hb'
  have e : a = gI u l := by unfold gI; rw [← q3]; unfold Int.gcd; simp; omega
  subst e
  have g1 := gI_pos (u := u) h1
  have g2 := gI_bd (u := u) h1 h2
  exact db_cons (ds_ret (de_tup (da_cons (de_bin (dv c.toCv G0 G0) (dv c.toCv G2 G2) (by walk_at "o_fdiv")) (da_cons (de_bin (dv c.toCv G1 G1) (dv c.toCv G2 G2) (by walk_at "o_fdiv")) da_nil)) (by walk_at "sz")) rfl)
abbrev s__law_plus : Stmt := topS 18
abbrev n__law_plus : List Str := ["one", "other"]
theorem sc__law_plus : FnScope n__law_plus ["one", "other"] (defScope s__law_plus) := ⟨rfl, rfl, rfl, by decide +kernel, rfl, by decide +kernel, by decide +kernel⟩
def phi__law_plus : List PyData → Out → Prop := fun ds o => ∃ (a b x y : Int), ds = [.tuple [.int a, .int b], .tuple [.int x, .int y]] ∧ (0 < b) ∧ (0 < y) ∧ (Bd 1500 a) ∧ (Bd 1500 b) ∧ (Bd 1500 x) ∧ (Bd 1500 y) ∧ o = .ret (fr (a * y + x * b) (b * y))
theorem i__law_plus {a b x y : Int} (h1 : 0 < b) (h2 : 0 < y) (h3 : Bd 1500 a) (h4 : Bd 1500 b) (h5 : Bd 1500 x) (h6 : Bd 1500 y) : phi__law_plus [.tuple [.int a, .int b], .tuple [.int x, .int y]] (.ret (fr (a * y + x * b) (b * y))) := ⟨_, _, _, _, rfl, h1, h2, h3, h4, h5, h6, rfl⟩
local macro_rules | `(tactic| walk_at "f__law_plus") => `(tactic| exact i__law_plus (by walk_at "sd") (by walk_at "sd") (by walk_at "sd") (by walk_at "sd") (by walk_at "sd") (by walk_at "sd"))
theorem ok__law_plus (g : Bl M.mg) (G_law_fraction : Fok M 1 "_law_fraction" phi__law_fraction) {f : Addr} {fd : FuncData} (F : Fun M.K "_law_plus" "_law_plus" s__law_plus f fd) (hm : M.mg "_law_plus" = some (.ref f)) (hb : Binds M.K fd ["one", "other"] []) : Fok M 2 "_law_plus" phi__law_plus := by
  refine fok_mk (N := n__law_plus) F hm hb sc__law_plus (fun ds o h => by obtain ⟨a, b, x, y, rfl, _⟩ := h; rfl) fun X W ds o c h => ?_
  obtain ⟨a, b, x, y, rfl, h1, h2, h3, h4, h5, h6, rfl⟩ := h
  show DB M X W _ [.v (.tuple [.int a, .int b]), .v (.tuple [.int x, .int y])] _ _
  have p1 := Int.mul_pos h1 h2
  have p2 : Bd 4000 (b * y) := bd_mono (mul_bd h4 h6) (by omega)
  exact db_cons (ds_ret (de_call c G_law_fraction (by decide) (da_cons (de_bin (de_bin (de_ix (dv c.toCv G0 G0) de_int (by walk_at "ix")) (de_ix (dv c.toCv G1 G1) de_int (by walk_at "ix")) (by walk_at "o_mul")) (de_bin (de_ix (dv c.toCv G1 G1) de_int (by walk_at "ix")) (de_ix (dv c.toCv G0 G0) de_int (by walk_at "ix")) (by walk_at "o_mul")) (by walk_at "o_add")) (da_cons (de_bin (de_ix (dv c.toCv G0 G0) de_int (by walk_at "ix")) (de_ix (dv c.toCv G1 G1) de_int (by walk_at "ix")) (by walk_at "o_mul")) da_nil)) (by walk_at "f__law_fraction")) rfl)
abbrev s__law_times : Stmt := topS 19
abbrev n__law_times : List Str := ["one", "other"]
theorem sc__law_times : FnScope n__law_times ["one", "other"] (defScope s__law_times) := ⟨rfl, rfl, rfl, by decide +kernel, rfl, by decide +kernel, by decide +kernel⟩
def phi__law_times : List PyData → Out → Prop := fun ds o => ∃ (a b x y : Int), ds = [.tuple [.int a, .int b], .tuple [.int x, .int y]] ∧ (0 < b) ∧ (0 < y) ∧ (Bd 1500 a) ∧ (Bd 1500 b) ∧ (Bd 1500 x) ∧ (Bd 1500 y) ∧ o = .ret (fr (a * x) (b * y))
theorem i__law_times {a b x y : Int} (h1 : 0 < b) (h2 : 0 < y) (h3 : Bd 1500 a) (h4 : Bd 1500 b) (h5 : Bd 1500 x) (h6 : Bd 1500 y) : phi__law_times [.tuple [.int a, .int b], .tuple [.int x, .int y]] (.ret (fr (a * x) (b * y))) := ⟨_, _, _, _, rfl, h1, h2, h3, h4, h5, h6, rfl⟩
local macro_rules | `(tactic| walk_at "f__law_times") => `(tactic| exact i__law_times (by walk_at "sd") (by walk_at "sd") (by walk_at "sd") (by walk_at "sd") (by walk_at "sd") (by walk_at "sd"))
theorem ok__law_times (g : Bl M.mg) (G_law_fraction : Fok M 1 "_law_fraction" phi__law_fraction) {f : Addr} {fd : FuncData} (F : Fun M.K "_law_times" "_law_times" s__law_times f fd) (hm : M.mg "_law_times" = some (.ref f)) (hb : Binds M.K fd ["one", "other"] []) : Fok M 2 "_law_times" phi__law_times := by
  refine fok_mk (N := n__law_times) F hm hb sc__law_times (fun ds o h => by obtain ⟨a, b, x, y, rfl, _⟩ := h; rfl) fun X W ds o c h => ?_
  obtain ⟨a, b, x, y, rfl, h1, h2, h3, h4, h5, h6, rfl⟩ := h
  show DB M X W _ [.v (.tuple [.int a, .int b]), .v (.tuple [.int x, .int y])] _ _
  have p1 := Int.mul_pos h1 h2
  have p2 : Bd 4000 (b * y) := bd_mono (mul_bd h4 h6) (by omega)
  exact db_cons (ds_ret (de_call c G_law_fraction (by decide) (da_cons (de_bin (de_ix (dv c.toCv G0 G0) de_int (by walk_at "ix")) (de_ix (dv c.toCv G1 G1) de_int (by walk_at "ix")) (by walk_at "o_mul")) (da_cons (de_bin (de_ix (dv c.toCv G0 G0) de_int (by walk_at "ix")) (de_ix (dv c.toCv G1 G1) de_int (by walk_at "ix")) (by walk_at "o_mul")) da_nil)) (by walk_at "f__law_fraction")) rfl)
/-! ### the law's own mathematics -/
theorem add_mul15 {a y x b : Int} (h1 : Bd 700 a) (h2 : Bd 700 y) (h3 : Bd 700 x) (h4 : Bd 700 b) : Bd 1500 (a * y + x * b) := bd_mono (add_bd (mul_bd h1 h2) (mul_bd h3 h4)) (by decide)
theorem mul15 {a b : Int} (h1 : Bd 700 a) (h2 : Bd 700 b) : Bd 1500 (a * b) := bd_mono (mul_bd h1 h2) (by decide)
theorem up15 {a : Int} (h : Bd 700 a) : Bd 1500 a := bd_mono h (by decide)
theorem small7 {a : Int} (h : -1000000 < a ∧ a < 1000000) : Bd 700 a := bd_mono (bd_small h) (by decide)
theorem quiet7 {m s : Int} (h : 1 ≤ s ∧ s ≤ 64) (hm : m ≤ 41) : Bd 700 (quietF m s) := bd_mono (quiet_bd h hm) (by decide)
theorem clear7 {m s : Int} (h : 1 ≤ s ∧ s ≤ 64) (hm : 0 ≤ m ∧ m ≤ 41) : Bd 700 (clearF m s) := bd_mono (clear_bd h hm) (by decide)
theorem more7 {m s : Int} (h : 1 ≤ s ∧ s ≤ 64) (hm : 0 ≤ m ∧ m ≤ 41) : Bd 700 (moreF m s) := bd_mono (more_bd h hm) (by decide)
theorem low7 {m s : Int} (h : 1 ≤ s ∧ s ≤ 64) (hm : m ≤ 41) : Bd 700 (lowF m s) := bd_mono (low_bd h hm) (by decide)
theorem pow7 {s : Int} {k : Nat} (h : 0 ≤ s ∧ s ≤ 64) (hk : k ≤ 41) : Bd 700 (s ^ k) := bd_mono (pw_bd h hk) (by decide)
theorem ap7 {s : Int} {k : Nat} (h : 0 ≤ s ∧ s ≤ 64) (hk : k ≤ 41) : Bd 700 (apF s k) := bd_mono (ap_bd' h hk) (by decide)
theorem up4000 {a : Int} (h : Bd 700 a) : Bd 4000 a := bd_mono h (by decide)
def frP (u l : Int) : Int × Int := (fU u l, fL u l)
def plusP (p q : Int × Int) : Int × Int := frP (p.1 * q.2 + q.1 * p.2) (p.2 * q.2)
def timesP (p q : Int × Int) : Int × Int := frP (p.1 * q.1) (p.2 * q.2)
def qP (m s : Int) := frP (quietF m s) (lowF m s)
def cP (m s : Int) := frP (clearF m s) (lowF m s)
def xP (m s : Int) := frP (moreF m s) (lowF m s)
def aP (m s : Int) := frP (apF s m.toNat) (lowF m s)
def lP (m s : Int) := frP ((s - 1) ^ (m - 1).toNat) (s ^ (m - 1).toNat)
def lsP (m s : Int) := plusP (cP m s) (timesP (2, 1) (xP m s))
def ch1 (m s : Int) : Bool := plusP (plusP (qP m s) (cP m s)) (xP m s) == (s, 1)
def ch2 (m s : Int) : Bool := decide ((lsP m s).1 ≤ m * (lsP m s).2)
def ch3 (m s : Int) : Bool := qP (m + 1) s == timesP (qP m s) (frP (s - 1) s)
def ch4 (m s : Int) : Bool := aP (m + 1) s == timesP (aP m s) (frP (if s - m > 0 then s - m else 0) s)
def ch5 (m s : Int) : Bool := decide (m ≤ 0) || cP m s == timesP (m, 1) (lP m s)
def ch6 (s : Int) : Bool := aP 0 s == (1, 1) && aP 1 s == (1, 1)
def ch7 (m s : Int) : Bool := bestF m (s - 1).toNat == (if (if s < m then s else m) > 1 then (if s < m then s else m) else 1)
def ch8 (m s : Int) : Bool := decide (m ≤ 1) || lP m s == timesP (lP (m - 1) s) (frP (s - 1) s)
def chs (m s : Int) : Bool := ch1 m s && ch2 m s && ch3 m s && ch4 m s && ch5 m s && ch6 s && ch7 m s && ch8 m s
theorem chk0 : ∀ m : Fin 16, ∀ t : Fin 20, chs (m.val : Int) ((t.val : Int) + 1) = true := by decide +kernel
theorem chk {m s : Int} (hm : 0 ≤ m ∧ m < 16) (hs : 1 ≤ s ∧ s ≤ 20) : ch1 m s = true ∧ ch2 m s = true ∧ ch3 m s = true ∧ ch4 m s = true ∧ ch5 m s = true ∧ ch6 s = true ∧ ch7 m s = true ∧ ch8 m s = true := by
  have h := chk0 ⟨m.toNat, by omega⟩ ⟨(s - 1).toNat, by omega⟩
  have e1 : ((m.toNat : Nat) : Int) = m := by omega
  have e2 : (((s - 1).toNat : Nat) : Int) + 1 = s := by omega
  dsimp only at h
  rw [e1, e2] at h
  unfold chs at h
  simpa only [Bool.and_eq_true, and_assoc] using h
theorem nope {b : Bool} {p : Prop} (hb : (!b) = true) (h : b = true) : p := by
  rw [h] at hb
  cases hb
theorem o_nePair {X : Cx} {N : List Str} {sc : Scope} {a b x y : Int} (c : Cv M N sc X) : Op2 M X (compareOp .NotEq) (.tuple [.int a, .int b]) (.tuple [.int x, .int y]) (.bool (!((a, b) == (x, y)))) := by
  have e : PyData.eqv (.tuple [.int a, .int b]) (.tuple [.int x, .int y]) = ((a, b) == (x, y)) := by
    show (a == x && (b == y && true)) = (a == x && b == y)
    rw [Bool.and_true]
  rw [← e]
  exact o_neD c rfl rfl
local macro_rules | `(tactic| walk_at "pos") => `(tactic| first | assumption | omega | (with_reducible refine fL_pos ?_; walk_at "pos") | (with_reducible refine Int.mul_pos ?_ ?_ <;> walk_at "pos") | (with_reducible refine low_pos ?_; omega) | (with_reducible refine Int.pow_pos ?_; omega))
local macro_rules | `(tactic| walk_at "bd7") => `(tactic| first | assumption | (with_reducible refine small7 ?_; omega) | (with_reducible refine fU_bd ?_ ?_; walk_at "pos"; walk_at "bd7") | (with_reducible refine fL_bd ?_ ?_; walk_at "pos"; walk_at "bd7") | (with_reducible refine quiet7 ?_ ?_ <;> omega) | (with_reducible refine clear7 ?_ ?_ <;> omega) | (with_reducible refine more7 ?_ ?_ <;> omega) | (with_reducible refine low7 ?_ ?_ <;> omega) | (with_reducible refine ap7 ?_ ?_ <;> omega) | (with_reducible refine pow7 ?_ ?_ <;> omega) | (have h0 := of_decide_eq_true ‹decide _ = true›; with_reducible refine pow7 ?_ ?_ <;> omega))
local macro_rules | `(tactic| walk_at "bd") => `(tactic| first | assumption | (with_reducible refine fU_bd ?_ ?_; walk_at "pos"; walk_at "bd") | (with_reducible refine fL_bd ?_ ?_; walk_at "pos"; walk_at "bd") | (with_reducible refine add_mul15 ?_ ?_ ?_ ?_ <;> walk_at "bd7") | (with_reducible refine mul15 ?_ ?_ <;> walk_at "bd7") | (with_reducible refine up15 ?_; walk_at "bd7") | (with_reducible refine up4000 ?_; walk_at "bd7"))
local macro_rules | `(tactic| walk_at "sd") => `(tactic| first | assumption | omega | (constructor <;> omega) | (have h0 := of_decide_eq_true ‹decide _ = true›; constructor <;> omega) | (with_reducible show (0 : Int) < _; walk_at "pos") | walk_at "bd")
local macro_rules | `(tactic| walk_at "o_ne") => `(tactic| first | exact o_neI | exact o_nePair (Cn.toCv (by assumption)))

abbrev s_law : Stmt := topS 20
abbrev n_law : List Str := ["script", "k", "cell", "many", "size", "quiet", "clear", "clash", "least_now", "due"]
theorem sc_law : FnScope n_law ["script"] (defScope s_law) := ⟨rfl, rfl, rfl, by decide +kernel, rfl, by decide +kernel, by decide +kernel⟩
def phi_law : List PyData → Out → Prop := fun ds o => ∃ (ns : List Int), ds = [.list (ns.map PyData.int)] ∧ (ns.length ≤ 63) ∧ o = .ret (.bool true)
theorem i_law {ns : List Int} (h1 : ns.length ≤ 63) : phi_law [.list (ns.map PyData.int)] (.ret (.bool true)) := ⟨_, rfl, h1, rfl⟩
local macro_rules | `(tactic| walk_at "f_law") => `(tactic| exact i_law (by walk_at "sd"))
theorem ok_law (g : Bl M.mg) (G_law_cell : Fok M 1 "_law_cell" phi__law_cell) (G_law_mix : Fok M 1 "_law_mix" phi__law_mix) (Gmean_counts : Fok M 3 "mean_counts" phi_mean_counts) (G_law_plus : Fok M 2 "_law_plus" phi__law_plus) (G_law_times : Fok M 2 "_law_times" phi__law_times) (G_law_fraction : Fok M 1 "_law_fraction" phi__law_fraction) (Gapart : Fok M 3 "apart" phi_apart) (Galone : Fok M 3 "alone" phi_alone) (Gbest_size : Fok M 5 "best_size" phi_best_size) {f : Addr} {fd : FuncData} (F : Fun M.K "law" "law" s_law f fd) : FnOk M.P M.w M.K M.mg M.base (L2.CX M.P M.w) 6 f fd ["script"] (spX M.K phi_law) := by
  refine fn_mkD (N := n_law) F sc_law (fun ds o h => by obtain ⟨ns, rfl, _⟩ := h; rfl) fun X W ds o c h => ?_
  obtain ⟨ns, rfl, h1, rfl⟩ := h
  show DB M X W _ [.v (.list (ns.map PyData.int)), .no, .no, .no, .no, .no, .no, .no, .no, .no] _ _
  refine db_cons (ds_for c (pat_nm c.toCv G1) (di_range1 c.toCv g.range de_int (by walk_at "rg")) (fun i ρ => ρ = [.v (.list (ns.map PyData.int)), .no, .no, .no, .no, .no, .no, .no, .no, .no]) rfl (fun i d ρ' hd hi => ?_) (fun ρ' hi => ?_))
  · skip
    subst hi
    obtain ⟨hi, rfl⟩ := rangeD_get hd
    have hi : i < 10 := hi
    refine ⟨_, .nm T1, ?_⟩
    refine db_cons (ds_set c.toCv G2 (de_bin (de_call c G_law_cell (by decide) (da_cons (dv c.toCv G0 G0) (da_cons (de_bin (dv c.toCv G1 G1) de_int (by walk_at "o_mod")) da_nil)) (by walk_at "f__law_cell")) (de_bin de_int (dv c.toCv G1 G1) (by walk_at "o_mul")) (by walk_at "o_add")) T2 ?_)
    refine db_cons (ds_par2 c G3 G4 (da_cons (de_call c G_law_mix (by decide) (da_cons (dv c.toCv G2 G2) (da_cons de_int (da_cons de_int da_nil))) (by walk_at "f__law_mix")) (da_cons (de_bin de_int (de_call c G_law_mix (by decide) (da_cons (de_bin (de_call c G_law_cell (by decide) (da_cons (dv c.toCv G0 G0) (da_cons de_int da_nil)) (by walk_at "f__law_cell")) (dv c.toCv G1 G1) (by walk_at "o_add")) (da_cons de_int (da_cons de_int da_nil))) (by walk_at "f__law_mix")) (by walk_at "o_add")) da_nil)) T3 T4 ?_)
    have r1 := mix_in (c := cellF ns ((0 + (i : Int)) % 9) + 31 * (0 + (i : Int))) (p := 9767) (m := 16) (by decide)
    have r2 := mix_in (c := cellF ns 9 + (0 + (i : Int))) (p := 9749) (m := 20) (by decide)
    generalize mixF (cellF ns ((0 + (i : Int)) % 9) + 31 * (0 + (i : Int))) 9767 16 = m at r1 ⊢
    generalize mixF (cellF ns 9 + (0 + (i : Int))) 9749 20 = t at r2 ⊢
    have r3 : 1 ≤ 1 + t ∧ 1 + t ≤ 20 := by omega
    generalize 1 + t = s at r3 ⊢
    obtain ⟨k1, k2, k3, k4, k5, k6, k7, k8⟩ := chk r1 r3
    refine db_cons (ds_asg (pat_tp3 c G5 G6 G7) (de_call c Gmean_counts (by decide) (da_cons (dv c.toCv G3 G3) (da_cons (dv c.toCv G4 G4) da_nil)) (by walk_at "f_mean_counts")) (.tp (.cons T5 (.cons T6 (.cons T7 .nil)))) ?_)
    refine db_cons (ds_if (dt_cmp (de_call c G_law_plus (by decide) (da_cons (de_call c G_law_plus (by decide) (da_cons (dv c.toCv G5 G5) (da_cons (dv c.toCv G6 G6) da_nil)) (by walk_at "f__law_plus")) (da_cons (dv c.toCv G7 G7) da_nil)) (by walk_at "f__law_plus")) (de_tup (da_cons (dv c.toCv G4 G4) (da_cons de_int da_nil)) (by walk_at "sz")) (by walk_at "o_ne") (nomark _)) (fun hb => ?_) (fun hb => db_end ?_))
    · exact nope hb k1
    refine db_cons (ds_set c.toCv G8 (de_call c G_law_plus (by decide) (da_cons (dv c.toCv G6 G6) (da_cons (de_call c G_law_times (by decide) (da_cons (de_tup (da_cons de_int (da_cons de_int da_nil)) (by walk_at "sz")) (da_cons (dv c.toCv G7 G7) da_nil)) (by walk_at "f__law_times")) da_nil)) (by walk_at "f__law_plus")) T8 ?_)
    refine db_cons (ds_if (dt_cmp (de_ix (dv c.toCv G8 G8) de_int (by walk_at "ix")) (de_bin (dv c.toCv G3 G3) (de_ix (dv c.toCv G8 G8) de_int (by walk_at "ix")) (by walk_at "o_mul")) (by walk_at "o_gt") (nomark _)) (fun hb => ?_) (fun hb => db_end ?_))
    · exact absurd (of_decide_eq_true hb) (Int.not_lt.mpr (of_decide_eq_true k2))
    refine db_cons (ds_if (dt_cmp (de_ix (de_call c Gmean_counts (by decide) (da_cons (de_bin (dv c.toCv G3 G3) de_int (by walk_at "o_add")) (da_cons (dv c.toCv G4 G4) da_nil)) (by walk_at "f_mean_counts")) de_int (by walk_at "ix")) (de_call c G_law_times (by decide) (da_cons (dv c.toCv G5 G5) (da_cons (de_call c G_law_fraction (by decide) (da_cons (de_bin (dv c.toCv G4 G4) de_int (by walk_at "o_sub")) (da_cons (dv c.toCv G4 G4) da_nil)) (by walk_at "f__law_fraction")) da_nil)) (by walk_at "f__law_times")) (by walk_at "o_ne") (nomark _)) (fun hb => ?_) (fun hb => db_end ?_))
    · exact nope hb k3
    refine db_cons (ds_if (dt_cmp (de_call c Gapart (by decide) (da_cons (de_bin (dv c.toCv G3 G3) de_int (by walk_at "o_add")) (da_cons (dv c.toCv G4 G4) da_nil)) (by walk_at "f_apart")) (de_call c G_law_times (by decide) (da_cons (de_call c Gapart (by decide) (da_cons (dv c.toCv G3 G3) (da_cons (dv c.toCv G4 G4) da_nil)) (by walk_at "f_apart")) (da_cons (de_call c G_law_fraction (by decide) (da_cons (de_callB c.toCv g.max boot_max (da_cons de_int (da_cons (de_bin (dv c.toCv G4 G4) (dv c.toCv G3 G3) (by walk_at "o_sub")) da_nil)) (by walk_at "c_max")) (da_cons (dv c.toCv G4 G4) da_nil)) (by walk_at "f__law_fraction")) da_nil)) (by walk_at "f__law_times")) (by walk_at "o_ne") (nomark _)) (fun hb => ?_) (fun hb => db_end ?_))
    · exact nope hb k4
    refine db_cons (ds_if (dt_bool (dw_and (dt_cmp (dv c.toCv G3 G3) de_int (by walk_at "o_gt") (nomark _)) (fun hc => (dw_and1 (dt_cmp (dv c.toCv G6 G6) (de_call c G_law_times (by decide) (da_cons (de_tup (da_cons (dv c.toCv G3 G3) (da_cons de_int da_nil)) (by walk_at "sz")) (da_cons (de_call c Galone (by decide) (da_cons (dv c.toCv G3 G3) (da_cons (dv c.toCv G4 G4) da_nil)) (by walk_at "f_alone")) da_nil)) (by walk_at "f__law_times")) (by walk_at "o_ne") (nomark _)))))) (fun hb => ?_) (fun hb => db_end ?_))
    · exact absurd hb (by
      rw [Bool.and_eq_true]
      intro z
      have z1 := of_decide_eq_true z.1
      have e5 : (decide (m ≤ 0) || cP m s == timesP (m, 1) (lP m s)) = true := k5
      rw [decide_eq_false (by omega), Bool.false_or] at e5
      exact nope z.2 e5)
    refine db_cons (ds_if (dt_bool (dw_or (dt_cmp (de_call c Gapart (by decide) (da_cons de_int (da_cons (dv c.toCv G4 G4) da_nil)) (by walk_at "f_apart")) (de_tup (da_cons de_int (da_cons de_int da_nil)) (by walk_at "sz")) (by walk_at "o_ne") (nomark _)) (fun hc => (dw_or1 (dt_cmp (de_call c Gapart (by decide) (da_cons de_int (da_cons (dv c.toCv G4 G4) da_nil)) (by walk_at "f_apart")) (de_tup (da_cons de_int (da_cons de_int da_nil)) (by walk_at "sz")) (by walk_at "o_ne") (nomark _)))))) (fun hb => ?_) (fun hb => db_end ?_))
    · exact absurd hb (by
      rw [Bool.or_eq_true]
      have e6 := Bool.and_eq_true_iff.mp (show (aP 0 s == (1, 1) && aP 1 s == (1, 1)) = true from k6)
      intro z
      exact z.elim (fun z => nope z e6.1) (fun z => nope z e6.2))
    refine db_cons (ds_if (dt_cmp (de_call c Gbest_size (by decide) (da_cons (dv c.toCv G3 G3) (da_cons (dv c.toCv G4 G4) da_nil)) (by walk_at "f_best_size")) (de_callB c.toCv g.max boot_max (da_cons de_int (da_cons (de_callB c.toCv g.min boot_min (da_cons (dv c.toCv G3 G3) (da_cons (dv c.toCv G4 G4) da_nil)) (by walk_at "c_min")) da_nil)) (by walk_at "c_max")) (by walk_at "o_ne") (nomark _)) (fun hb => ?_) (fun hb => db_end ?_))
    · exact absurd hb (by
      have e7 := eq_of_beq (show (bestF m (s - 1).toNat == _) = true from k7)
      rw [Bool.not_eq_true', decide_eq_false_iff_not]
      exact fun z => z e7)
    refine db_cons (ds_if (dt_cmp (dv c.toCv G3 G3) de_int (by walk_at "o_gt") (nomark _)) (fun hb => ?_) (fun hb => ?_))
    · skip
      refine db_cons (ds_set c.toCv G9 (de_call c G_law_times (by decide) (da_cons (de_call c Galone (by decide) (da_cons (de_bin (dv c.toCv G3 G3) de_int (by walk_at "o_sub")) (da_cons (dv c.toCv G4 G4) da_nil)) (by walk_at "f_alone")) (da_cons (de_call c G_law_fraction (by decide) (da_cons (de_bin (dv c.toCv G4 G4) de_int (by walk_at "o_sub")) (da_cons (dv c.toCv G4 G4) da_nil)) (by walk_at "f__law_fraction")) da_nil)) (by walk_at "f__law_times")) T9 ?_)
      refine db_end ?_
      refine db_cons (ds_if (dt_bool (dw_and (dt_cmp (dv c.toCv G3 G3) de_int (by walk_at "o_gt") (nomark _)) (fun hc => (dw_and1 (dt_cmp (de_call c Galone (by decide) (da_cons (dv c.toCv G3 G3) (da_cons (dv c.toCv G4 G4) da_nil)) (by walk_at "f_alone")) (dv c.toCv G9 G9) (by walk_at "o_ne") (nomark _)))))) (fun hb => ?_) (fun hb => db_end ?_))
      · exact absurd hb (by
      rw [Bool.and_eq_true]
      intro z
      have z1 := of_decide_eq_true z.1
      have e8 : (decide (m ≤ 1) || lP m s == timesP (lP (m - 1) s) (frP (s - 1) s)) = true := k8
      rw [decide_eq_false (by omega), Bool.false_or] at e8
      exact nope z.2 e8)
      exact db_nil ⟨_, by walk_at "le", rfl⟩
    · skip
      refine db_end ?_
      refine db_cons (ds_if (dt_bool (dw_and (b2 := false) (dt_cmp (dv c.toCv G3 G3) de_int (by walk_at "o_gt") (nomark _)) (fun hc => by rw [hc] at hb; cases hb))) (fun hb => ?_) (fun hb => db_end ?_))
      · exact absurd hb (by rw [Bool.and_false]; decide)
      exact db_nil ⟨_, by walk_at "le", rfl⟩
  subst hi
  exact db_cons (ds_ret de_bl rfl)
theorem all_mk {P : Program} {w : World} {K : PySem.W.Frag} {h : Heap} {mg : Str → Option Value} {fa f0 f1 f2 f3 f4 f5 f6 f7 f8 f9 f10 f11 f12 f13 : Addr} (X : K.In h) (G : h.Ns mainGlobals mg) (hfa : mg "law" = some (.ref fa))
    {od0 an0 od1 an1 od2 an2 od3 an3 od4 an4 od5 an5 od6 an6 od7 an7 od8 an8 od9 an9 od10 an10 od11 an11 od12 an12 od13 an13 : Option Addr} {sl0 sl1 sl2 sl3 sl4 sl5 sl6 sl7 sl8 sl9 sl10 sl11 sl12 sl13 : Array (Option Value)} {oc0 kV0 dc0 pm0 cd0 ct0 oc1 kV1 dc1 pm1 cd1 ct1 oc2 kV2 dc2 pm2 cd2 ct2 oc3 kV3 dc3 pm3 cd3 ct3 oc4 kV4 dc4 pm4 cd4 ct4 oc5 kV5 dc5 pm5 cd5 ct5 oc6 kV6 dc6 pm6 cd6 ct6 oc7 kV7 dc7 pm7 cd7 ct7 oc8 kV8 dc8 pm8 cd8 ct8 oc9 kV9 dc9 pm9 cd9 ct9 oc10 kV10 dc10 pm10 cd10 ct10 oc11 kV11 dc11 pm11 cd11 ct11 oc12 kV12 dc12 pm12 cd12 ct12 oc13 kV13 dc13 pm13 cd13 ct13 : Value}
    (a0 : PySem.W.nsIn K mainGlobals "power" = some (some (.ref f0))) (l0 : K.lookup f0 = some ⟨oc0, od0, .func (PySem.W.fnOf "power" "power" (defArgs s_power) (defBody s_power) (defScope s_power) .none kV0 dc0 pm0 an0 cd0 ct0), sl0⟩) (c0 : PySem.W.codeIn K cd0 "power" = true) (k0 : PySem.W.keepIn K (.ref f0) = true)
    (a1 : PySem.W.nsIn K mainGlobals "divisor" = some (some (.ref f1))) (l1 : K.lookup f1 = some ⟨oc1, od1, .func (PySem.W.fnOf "divisor" "divisor" (defArgs s_divisor) (defBody s_divisor) (defScope s_divisor) .none kV1 dc1 pm1 an1 cd1 ct1), sl1⟩) (c1 : PySem.W.codeIn K cd1 "divisor" = true) (k1 : PySem.W.keepIn K (.ref f1) = true)
    (a2 : PySem.W.nsIn K mainGlobals "fraction" = some (some (.ref f2))) (l2 : K.lookup f2 = some ⟨oc2, od2, .func (PySem.W.fnOf "fraction" "fraction" (defArgs s_fraction) (defBody s_fraction) (defScope s_fraction) .none kV2 dc2 pm2 an2 cd2 ct2), sl2⟩) (c2 : PySem.W.codeIn K cd2 "fraction" = true) (k2 : PySem.W.keepIn K (.ref f2) = true)
    (a3 : PySem.W.nsIn K mainGlobals "mean_counts" = some (some (.ref f3))) (l3 : K.lookup f3 = some ⟨oc3, od3, .func (PySem.W.fnOf "mean_counts" "mean_counts" (defArgs s_mean_counts) (defBody s_mean_counts) (defScope s_mean_counts) .none kV3 dc3 pm3 an3 cd3 ct3), sl3⟩) (c3 : PySem.W.codeIn K cd3 "mean_counts" = true) (k3 : PySem.W.keepIn K (.ref f3) = true)
    (a4 : PySem.W.nsIn K mainGlobals "apart" = some (some (.ref f4))) (l4 : K.lookup f4 = some ⟨oc4, od4, .func (PySem.W.fnOf "apart" "apart" (defArgs s_apart) (defBody s_apart) (defScope s_apart) .none kV4 dc4 pm4 an4 cd4 ct4), sl4⟩) (c4 : PySem.W.codeIn K cd4 "apart" = true) (k4 : PySem.W.keepIn K (.ref f4) = true)
    (a5 : PySem.W.nsIn K mainGlobals "by_slot" = some (some (.ref f5))) (l5 : K.lookup f5 = some ⟨oc5, od5, .func (PySem.W.fnOf "by_slot" "by_slot" (defArgs s_by_slot) (defBody s_by_slot) (defScope s_by_slot) .none kV5 dc5 pm5 an5 cd5 ct5), sl5⟩) (c5 : PySem.W.codeIn K cd5 "by_slot" = true) (k5 : PySem.W.keepIn K (.ref f5) = true)
    (a6 : PySem.W.nsIn K mainGlobals "best_size" = some (some (.ref f6))) (l6 : K.lookup f6 = some ⟨oc6, od6, .func (PySem.W.fnOf "best_size" "best_size" (defArgs s_best_size) (defBody s_best_size) (defScope s_best_size) .none kV6 dc6 pm6 an6 cd6 ct6), sl6⟩) (c6 : PySem.W.codeIn K cd6 "best_size" = true) (k6 : PySem.W.keepIn K (.ref f6) = true)
    (a7 : PySem.W.nsIn K mainGlobals "alone" = some (some (.ref f7))) (l7 : K.lookup f7 = some ⟨oc7, od7, .func (PySem.W.fnOf "alone" "alone" (defArgs s_alone) (defBody s_alone) (defScope s_alone) .none kV7 dc7 pm7 an7 cd7 ct7), sl7⟩) (c7 : PySem.W.codeIn K cd7 "alone" = true) (k7 : PySem.W.keepIn K (.ref f7) = true)
    (a8 : PySem.W.nsIn K mainGlobals "_law_cell" = some (some (.ref f8))) (l8 : K.lookup f8 = some ⟨oc8, od8, .func (PySem.W.fnOf "_law_cell" "_law_cell" (defArgs s__law_cell) (defBody s__law_cell) (defScope s__law_cell) .none kV8 dc8 pm8 an8 cd8 ct8), sl8⟩) (c8 : PySem.W.codeIn K cd8 "_law_cell" = true) (k8 : PySem.W.keepIn K (.ref f8) = true)
    (a9 : PySem.W.nsIn K mainGlobals "_law_mix" = some (some (.ref f9))) (l9 : K.lookup f9 = some ⟨oc9, od9, .func (PySem.W.fnOf "_law_mix" "_law_mix" (defArgs s__law_mix) (defBody s__law_mix) (defScope s__law_mix) .none kV9 dc9 pm9 an9 cd9 ct9), sl9⟩) (c9 : PySem.W.codeIn K cd9 "_law_mix" = true) (k9 : PySem.W.keepIn K (.ref f9) = true)
    (a10 : PySem.W.nsIn K mainGlobals "_law_fraction" = some (some (.ref f10))) (l10 : K.lookup f10 = some ⟨oc10, od10, .func (PySem.W.fnOf "_law_fraction" "_law_fraction" (defArgs s__law_fraction) (defBody s__law_fraction) (defScope s__law_fraction) .none kV10 dc10 pm10 an10 cd10 ct10), sl10⟩) (c10 : PySem.W.codeIn K cd10 "_law_fraction" = true) (k10 : PySem.W.keepIn K (.ref f10) = true)
    (a11 : PySem.W.nsIn K mainGlobals "_law_plus" = some (some (.ref f11))) (l11 : K.lookup f11 = some ⟨oc11, od11, .func (PySem.W.fnOf "_law_plus" "_law_plus" (defArgs s__law_plus) (defBody s__law_plus) (defScope s__law_plus) .none kV11 dc11 pm11 an11 cd11 ct11), sl11⟩) (c11 : PySem.W.codeIn K cd11 "_law_plus" = true) (k11 : PySem.W.keepIn K (.ref f11) = true)
    (a12 : PySem.W.nsIn K mainGlobals "_law_times" = some (some (.ref f12))) (l12 : K.lookup f12 = some ⟨oc12, od12, .func (PySem.W.fnOf "_law_times" "_law_times" (defArgs s__law_times) (defBody s__law_times) (defScope s__law_times) .none kV12 dc12 pm12 an12 cd12 ct12), sl12⟩) (c12 : PySem.W.codeIn K cd12 "_law_times" = true) (k12 : PySem.W.keepIn K (.ref f12) = true)
    (a13 : PySem.W.nsIn K mainGlobals "law" = some (some (.ref f13))) (l13 : K.lookup f13 = some ⟨oc13, od13, .func (PySem.W.fnOf "law" "law" (defArgs s_law) (defBody s_law) (defScope s_law) .none kV13 dc13 pm13 an13 cd13 ct13), sl13⟩) (c13 : PySem.W.codeIn K cd13 "law" = true) (k13 : PySem.W.keepIn K (.ref f13) = true)
    (z0 : PySem.W.nsIn K mainGlobals "range" = some none)
    (z1 : PySem.W.nsIn K mainGlobals "abs" = some none)
    (z2 : PySem.W.nsIn K mainGlobals "max" = some none)
    (z3 : PySem.W.nsIn K mainGlobals "min" = some none)
    (z4 : PySem.W.nsIn K mainGlobals "len" = some none)
    : ∃ fd : FuncData, (∀ (s : Shared) (v : Value), BindsTo s fd ⟨[v], []⟩ [("script", v)]) ∧ ∀ base : Heap, K.In base → base.Ns mainGlobals mg → FnOk P w K mg base (L2.CX P w) 6 fa fd ["script"] (spX K phi_law) := by
  have e := hfa.symm.trans (PySem.W.mg_of X G a13)
  cases e
  refine ⟨PySem.W.fnOf "law" "law" (defArgs s_law) (defBody s_law) (defScope s_law) .none kV13 dc13 pm13 an13 cd13 ct13, fun s v => .of_eq rfl, fun base _ _ => ?_⟩
  have g : Bl (Md.mg ⟨P, w, K, mg, base⟩) := ⟨PySem.W.mg_none_of X G z0, PySem.W.mg_none_of X G z1, PySem.W.mg_none_of X G z2, PySem.W.mg_none_of X G z3, PySem.W.mg_none_of X G z4⟩
  have F0 := fun_mk (st := s_power) l0 c0 k0
  have b0 := F0.binds (ps := ["base", "many"]) fun _ _ _ _ _ _ us hl => match us, hl with | [_, _], _ => rfl
  have Gpower := ok_power (M := ⟨P, w, K, mg, base⟩) g  F0 (PySem.W.mg_of X G a0) b0
  have F1 := fun_mk (st := s_divisor) l1 c1 k1
  have b1 := F1.binds (ps := ["one", "other"]) fun _ _ _ _ _ _ us hl => match us, hl with | [_, _], _ => rfl
  have Gdivisor := ok_divisor (M := ⟨P, w, K, mg, base⟩) g  F1 (PySem.W.mg_of X G a1) b1
  have F2 := fun_mk (st := s_fraction) l2 c2 k2
  have b2 := F2.binds (ps := ["upper", "lower"]) fun _ _ _ _ _ _ us hl => match us, hl with | [_, _], _ => rfl
  have Gfraction := ok_fraction (M := ⟨P, w, K, mg, base⟩) g Gdivisor F2 (PySem.W.mg_of X G a2) b2
  have F3 := fun_mk (st := s_mean_counts) l3 c3 k3
  have b3 := F3.binds (ps := ["many", "size"]) fun _ _ _ _ _ _ us hl => match us, hl with | [_, _], _ => rfl
  have Gmean_counts := ok_mean_counts (M := ⟨P, w, K, mg, base⟩) g Gpower Gfraction F3 (PySem.W.mg_of X G a3) b3
  have F4 := fun_mk (st := s_apart) l4 c4 k4
  have b4 := F4.binds (ps := ["many", "size"]) fun _ _ _ _ _ _ us hl => match us, hl with | [_, _], _ => rfl
  have Gapart := ok_apart (M := ⟨P, w, K, mg, base⟩) g Gpower Gfraction F4 (PySem.W.mg_of X G a4) b4
  have F5 := fun_mk (st := s_by_slot) l5 c5 k5
  have b5 := F5.binds (ps := ["many", "size"]) fun _ _ _ _ _ _ us hl => match us, hl with | [_, _], _ => rfl
  have Gby_slot := ok_by_slot (M := ⟨P, w, K, mg, base⟩) g Gmean_counts F5 (PySem.W.mg_of X G a5) b5
  have F6 := fun_mk (st := s_best_size) l6 c6 k6
  have b6 := F6.binds (ps := ["many", "most"]) fun _ _ _ _ _ _ us hl => match us, hl with | [_, _], _ => rfl
  have Gbest_size := ok_best_size (M := ⟨P, w, K, mg, base⟩) g Gby_slot F6 (PySem.W.mg_of X G a6) b6
  have F7 := fun_mk (st := s_alone) l7 c7 k7
  have b7 := F7.binds (ps := ["many", "size"]) fun _ _ _ _ _ _ us hl => match us, hl with | [_, _], _ => rfl
  have Galone := ok_alone (M := ⟨P, w, K, mg, base⟩) g Gpower Gfraction F7 (PySem.W.mg_of X G a7) b7
  have F8 := fun_mk (st := s__law_cell) l8 c8 k8
  have b8 := F8.binds (ps := ["script", "k"]) fun _ _ _ _ _ _ us hl => match us, hl with | [_, _], _ => rfl
  have G_law_cell := ok__law_cell (M := ⟨P, w, K, mg, base⟩) g  F8 (PySem.W.mg_of X G a8) b8
  have F9 := fun_mk (st := s__law_mix) l9 c9 k9
  have b9 := F9.binds (ps := ["cell", "prime", "many"]) fun _ _ _ _ _ _ us hl => match us, hl with | [_, _, _], _ => rfl
  have G_law_mix := ok__law_mix (M := ⟨P, w, K, mg, base⟩) g  F9 (PySem.W.mg_of X G a9) b9
  have F10 := fun_mk (st := s__law_fraction) l10 c10 k10
  have b10 := F10.binds (ps := ["upper", "lower"]) fun _ _ _ _ _ _ us hl => match us, hl with | [_, _], _ => rfl
  have G_law_fraction := ok__law_fraction (M := ⟨P, w, K, mg, base⟩) g  F10 (PySem.W.mg_of X G a10) b10
  have F11 := fun_mk (st := s__law_plus) l11 c11 k11
  have b11 := F11.binds (ps := ["one", "other"]) fun _ _ _ _ _ _ us hl => match us, hl with | [_, _], _ => rfl
  have G_law_plus := ok__law_plus (M := ⟨P, w, K, mg, base⟩) g G_law_fraction F11 (PySem.W.mg_of X G a11) b11
  have F12 := fun_mk (st := s__law_times) l12 c12 k12
  have b12 := F12.binds (ps := ["one", "other"]) fun _ _ _ _ _ _ us hl => match us, hl with | [_, _], _ => rfl
  have G_law_times := ok__law_times (M := ⟨P, w, K, mg, base⟩) g G_law_fraction F12 (PySem.W.mg_of X G a12) b12
  exact ok_law (M := ⟨P, w, K, mg, base⟩) g G_law_cell G_law_mix Gmean_counts G_law_plus G_law_times G_law_fraction Gapart Galone Gbest_size (fun_mk (st := s_law) l13 c13 k13)
end K
open PySem PySem.W PyProof.Rows
set_option maxRecDepth 100000 in
set_option maxHeartbeats 0 in
theorem PySem.Challenge.cw_tagasks_k10_whole_chances_holds : PySem.Challenge.rw_tagasks_k10_whole_chances.Holds := by
  w_on; o_law; k_head; (case hw => w_witness2)
  k_fill
  refine L2.walk_of (l := PySem.Challenge.rw_tagasks_k10_whole_chances) (n := 63) (k := 6) (x := "script") (CX := fun w => L2.CX (PySem.Challenge.rw_tagasks_k10_whole_chances).prog w) (sp := fun w => Dl.spX _ K.phi_law) rfl (by decide) rfl ⟨rfl, by decide, by decide⟩ (fun w h Y => PySem.W.kIn_of Y) ?F (fun _ _ a ns hl _ hS => Dl.sp_script hS (K.i_law hl)) (fun _ _ _ _ _ h => Dl.cx_no h)
  case F =>
    intro w mg fa h KX G hmg
    refine' K.all_mk KX G hmg ?a0 ?l0 ?c0 ?k0 ?a1 ?l1 ?c1 ?k1 ?a2 ?l2 ?c2 ?k2 ?a3 ?l3 ?c3 ?k3 ?a4 ?l4 ?c4 ?k4 ?a5 ?l5 ?c5 ?k5 ?a6 ?l6 ?c6 ?k6 ?a7 ?l7 ?c7 ?k7 ?a8 ?l8 ?c8 ?k8 ?a9 ?l9 ?c9 ?k9 ?a10 ?l10 ?c10 ?k10 ?a11 ?l11 ?c11 ?k11 ?a12 ?l12 ?c12 ?k12 ?a13 ?l13 ?c13 ?k13 ?z0 ?z1 ?z2 ?z3 ?z4
    (case a0 => k_is); (case l0 => k_is); (case c0 => k_is); (case k0 => k_is); (case a1 => k_is); (case l1 => k_is); (case c1 => k_is); (case k1 => k_is); (case a2 => k_is); (case l2 => k_is); (case c2 => k_is); (case k2 => k_is); (case a3 => k_is); (case l3 => k_is); (case c3 => k_is); (case k3 => k_is); (case a4 => k_is); (case l4 => k_is); (case c4 => k_is); (case k4 => k_is); (case a5 => k_is); (case l5 => k_is); (case c5 => k_is); (case k5 => k_is); (case a6 => k_is); (case l6 => k_is); (case c6 => k_is); (case k6 => k_is); (case a7 => k_is); (case l7 => k_is); (case c7 => k_is); (case k7 => k_is); (case a8 => k_is); (case l8 => k_is); (case c8 => k_is); (case k8 => k_is); (case a9 => k_is); (case l9 => k_is); (case c9 => k_is); (case k9 => k_is); (case a10 => k_is); (case l10 => k_is); (case c10 => k_is); (case k10 => k_is); (case a11 => k_is); (case l11 => k_is); (case c11 => k_is); (case k11 => k_is); (case a12 => k_is); (case l12 => k_is); (case c12 => k_is); (case k12 => k_is); (case a13 => k_is); (case l13 => k_is); (case c13 => k_is); (case k13 => k_is); (case z0 => k_is); (case z1 => k_is); (case z2 => k_is); (case z3 => k_is); (case z4 => k_is)
