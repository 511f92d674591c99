import PyProof.Rows.All
import Wide.All
import OpenK.AllK
import Wide.FinOn
import HandS.ForMost
import HandS.Exc
import HandS.Evl
import HandS.HotCalls
import HandS.Wide
import HandS.Style
import HandS.WordsExc
import HandS.TupAny
import HandS.TupMul
import HandS.Deep
import HandS.Zip
import HandS.More
import HandS.IsInst
import HandS.ExcIs
import HandS.SetFor
import HandS.FltList
import HandS.Text
import HandS.ReCall
import KE.GoesEnum
import HandS.Replace
import HandS.Flow
import HandS.Codes
import HandS.TryOnly
import HandS.Set
import KE.SortData
import HandS.TupSets
import HandS.Conv
import KE.KDictSum
import HandS.SortKw
import KE.SortKeyHeap
import PySem.Challenge.RW_tagasks_k04_whole_walks
set_option Elab.async false
set_option linter.all false
set_option maxRecDepth 100000
set_option maxHeartbeats 2000000
set_option exponentiation.threshold 100000
namespace Dl
open PySem PySem.Spec PyProof.Rows L2

/-! ### data in a heap -/
/-- the script, a list of ints that is locked -/
def scrD (ns : List Int) : PyData := .dict (ns.map fun n => (.int n, .none))
/-- the class of a name -/
def clsA (K : PySem.W.Frag) (c : Str) : Addr := match PySem.W.nsIn K mainGlobals c with
  | some (some (.ref C)) => C
  | _ => 0
/-- an object that is only read, as data: its class, its fields -/
def obK (c : Str) (ns : List Str) (ds : List PyData) : List (PyData × PyData) := (.str c, .bool true) :: (ns.zip ds).map fun p => (.str p.1, p.2)
def isOb : PyData → Bool
  | .dict ((.str _, _) :: _) => true
  | .dict ((.none, _) :: _) => true
  | .dict ((.bool _, _) :: _) => true
  | _ => false
/-- a tuple of which it is known that it has no dict -/
def dfK (ds : List PyData) : List (PyData × PyData) := [(.none, .tuple ds)]
def dfD (ds : List PyData) : PyData := .dict (dfK ds)
/-- a dict with tuples as keys, that is only read, as data -/
def ktD : Key → PyData
  | .inl n => .int n
  | .inr x => .str x
def dtK (kvs : List (List Key × PyData)) : List (PyData × PyData) := (.bool true, .none) :: kvs.map fun kv => (.tuple (kv.1.map ktD), kv.2)
def dtD (kvs : List (List Key × PyData)) : PyData := .dict (dtK kvs)
/-- a dict with ints or texts as keys, locked, as data; its address is told, too -/
def lkK (a : Addr) (kvs : List (Key × PyData)) : List (PyData × PyData) := (.bool false, .int ((a : Nat) : Int)) :: kvs.map fun kv => (ktD kv.1, kv.2)
def lkD (a : Addr) (kvs : List (Key × PyData)) : PyData := .dict (lkK a kvs)
theorem lkK_scr {a : Addr} {kvs : List (Key × PyData)} {is : List Int} (h : (is.map fun n => (PyData.int n, PyData.none)) = lkK a kvs) : False := by
  cases is with
  | nil => cases h
  | cons n r =>
    rw [List.map_cons] at h
    injection h with h _
    injection h with h _
    cases h
theorem lkK_obK {a : Addr} {kvs : List (Key × PyData)} {es : List PyData} {c : Str} {ns : List Str} (h : obK c ns es = lkK a kvs) : False := by
  injection h with h _
  injection h with h _
  cases h
theorem lkK_dfK {a : Addr} {kvs : List (Key × PyData)} {ds : List PyData} (h : dfK ds = lkK a kvs) : False := by
  injection h with h _
  injection h with h _
  cases h
theorem lkK_dtK {a : Addr} {kvs : List (Key × PyData)} {ds : List (List Key × PyData)} (h : dtK ds = lkK a kvs) : False := by
  injection h with h _
  injection h with h _
  cases h
theorem dtK_scr {kvs : List (List Key × PyData)} {is : List Int} (h : (is.map fun n => (PyData.int n, PyData.none)) = dtK kvs) : False := by
  cases is with
  | nil => cases h
  | cons n r =>
    rw [List.map_cons] at h
    injection h with h _
    injection h with h _
    cases h
theorem dtK_obK {kvs : List (List Key × PyData)} {es : List PyData} {c : Str} {ns : List Str} (h : obK c ns es = dtK kvs) : False := by
  injection h with h _
  injection h with h _
  cases h
theorem dtK_dfK {kvs : List (List Key × PyData)} {ds : List PyData} (h : dfK ds = dtK kvs) : False := by
  injection h with h _
  injection h with h _
  cases h
theorem dfK_scr {ds : List PyData} {is : List Int} (h : (is.map fun n => (PyData.int n, PyData.none)) = dfK ds) : False := by
  cases is with
  | nil => cases h
  | cons n r =>
    rw [List.map_cons] at h
    injection h with h _
    injection h with h _
    cases h
theorem dfK_obK {ds es : List PyData} {c : Str} {ns : List Str} (h : obK c ns es = dfK ds) : False := by
  injection h with h _
  injection h with h _
  cases h
theorem obK_scr {c : Str} {ns : List Str} {ds : List PyData} {is : List Int} (h : (is.map fun n => (PyData.int n, PyData.none)) = obK c ns ds) : False := by
  cases is with
  | nil => cases h
  | cons n r =>
    rw [List.map_cons] at h
    injection h with h _
    injection h with h _
    cases h
mutual
inductive Dq (K : PySem.W.Frag) (B : Hp) : V → PyData → Prop
  | non : Dq K B .non .none
  | bl (b : Bool) : Dq K B (.bl b) (.bool b)
  | int (i : Int) : Dq K B (.int i) (.int i)
  | str (x : Str) : Dq K B (.str x) (.str x)
  | lst {a : Addr} {vs : List V} {ds : List PyData} (h : B a = some (.lst vs)) (t : DqAll K B vs ds) : Dq K B (.ref a) (.list ds)
  | tup {a : Addr} {vs : List V} {ds : List PyData} (h : SqT K B a vs) (t : DqAll K B vs ds) : Dq K B (.ref a) (.tuple ds)
  | scr {a : Addr} {ns : List Int} {kvs : List (PyData × PyData)} (e : kvs = ns.map fun n => (.int n, .none)) (h : SqL K B a (ns.map V.int)) : Dq K B (.ref a) (.dict kvs)
  | obj {a dx : Addr} {c : Str} {gs : List (Str × V)} {ds : List PyData} {kvs : List (PyData × PyData)} (e : kvs = obK c (gs.map (·.1)) ds) (h : B a = some (.ins (clsA K c) dx gs)) (t : DqAll K B (gs.map (·.2)) ds) : Dq K B (.ref a) (.dict kvs)
  | dft {a : Addr} {o : Obj} {vs : List V} {ds : List PyData} {kvs : List (PyData × PyData)} (e : kvs = dfK ds) (h : B a = some (.frz o (.tup vs))) (hd : o.dict = none) (t : DqAll K B vs ds) : Dq K B (.ref a) (.dict kvs)
  | dct {a : Addr} {ys : List (List Key × V)} {kvs : List (List Key × PyData)} {rows : List (PyData × PyData)} (e : rows = dtK kvs) (h : B a = some (.dT ys)) (hk : ys.map (·.1) = kvs.map (·.1)) (t : DqAll K B (ys.map (·.2)) (kvs.map (·.2))) : Dq K B (.ref a) (.dict rows)
  | fdk {a : Addr} {o : Obj} {ys : List (Key × V)} {kvs : List (Key × PyData)} {rows : List (PyData × PyData)} (e : rows = lkK a kvs) (h : B a = some (.frz o (.dK ys))) (hk : ys.map (·.1) = kvs.map (·.1)) (t : DqAll K B (ys.map (·.2)) (kvs.map (·.2))) : Dq K B (.ref a) (.dict rows)
inductive DqAll (K : PySem.W.Frag) (B : Hp) : List V → List PyData → Prop
  | nil : DqAll K B [] []
  | cons {v : V} {vs : List V} {d : PyData} {ds : List PyData} (h : Dq K B v d) (t : DqAll K B vs ds) : DqAll K B (v :: vs) (d :: ds)
end
mutual
theorem dq_dp {K : PySem.W.Frag} {B : Hp} : ∀ {v : V} {d : PyData}, Dq K B v d → d.canLay0 = true → L2.Dp K B v d
  | _, _, .non, _ => .non
  | _, _, .bl b, _ => .bl b
  | _, _, .int i, _ => .int i
  | _, _, .str x, _ => .str x
  | _, _, .lst h t, c => .lst (.inl (.inl h)) (dqa_dp t c)
  | _, _, .tup h t, c => .tup h (dqa_dp t c)
  | _, _, .scr _ _, c => by cases c
  | _, _, .obj _ _ _, c => by cases c
  | _, _, .dft _ _ _ _, c => by cases c
  | _, _, .dct _ _ _ _, c => by cases c
  | _, _, .fdk _ _ _ _, c => by cases c
theorem dqa_dp {K : PySem.W.Frag} {B : Hp} : ∀ {vs : List V} {ds : List PyData}, DqAll K B vs ds → PyData.canLayAll0 ds = true → L2.DpAll K B vs ds
  | _, _, .nil, _ => .nil
  | _, _, .cons h t, c => by
    have c' := Bool.and_eq_true_iff.mp c
    exact .cons (dq_dp h c'.1) (dqa_dp t c'.2)
end
mutual
theorem dp_mono {K : PySem.W.Frag} {B B' : Hp} (e : Same B B') : ∀ {v : V} {d : PyData}, Dq K B v d → Dq K B' v d
  | _, _, .non => .non
  | _, _, .bl b => .bl b
  | _, _, .int i => .int i
  | _, _, .str x => .str x
  | _, _, .lst h a => .lst (e _ _ h) (dpa_mono e a)
  | _, _, .tup h a => .tup (Evl.ex_t e h) (dpa_mono e a)
  | _, _, .scr q h => .scr q (e.seq h)
  | _, _, .obj q h t => .obj q (e _ _ h) (dpa_mono e t)
  | _, _, .dft q h z t => .dft q (e _ _ h) z (dpa_mono e t)
  | _, _, .dct q h z t => .dct q (e _ _ h) z (dpa_mono e t)
  | _, _, .fdk q h z t => .fdk q (e _ _ h) z (dpa_mono e t)
theorem dpa_mono {K : PySem.W.Frag} {B B' : Hp} (e : Same B B') : ∀ {vs : List V} {ds : List PyData}, DqAll K B vs ds → DqAll K B' vs ds
  | _, _, .nil => .nil
  | _, _, .cons h t => .cons (dp_mono e h) (dpa_mono e t)
end
theorem dpa_len {K : PySem.W.Frag} {B : Hp} : ∀ {vs : List V} {ds : List PyData}, DqAll K B vs ds → vs.length = ds.length
  | _, _, .nil => rfl
  | _, _, .cons _ t => by rw [List.length_cons, List.length_cons, dpa_len t]
theorem dpa_get {K : PySem.W.Frag} {B : Hp} : ∀ {vs : List V} {ds : List PyData}, DqAll K B vs ds → ∀ (i : Nat) (v : V), vs[i]? = some v → ∃ d, ds[i]? = some d ∧ Dq K B v d
  | _, _, .nil, i, v, h => by simp at h
  | _, _, .cons h t, 0, v, e => by
    simp at e
    subst e
    exact ⟨_, rfl, h⟩
  | _, _, .cons h t, i + 1, v, e => by
    obtain ⟨d, a, b⟩ := dpa_get t i v (by simpa using e)
    exact ⟨d, by simpa using a, b⟩
theorem dpa_getd {K : PySem.W.Frag} {B : Hp} : ∀ {vs : List V} {ds : List PyData}, DqAll K B vs ds → ∀ (i : Nat) (d : PyData), ds[i]? = some d → ∃ v, vs[i]? = some v ∧ Dq K B v d
  | _, _, .nil, i, v, h => by simp at h
  | _, _, .cons h t, 0, v, e => by
    simp at e
    subst e
    exact ⟨_, rfl, h⟩
  | _, _, .cons h t, i + 1, v, e => by
    obtain ⟨d, a, b⟩ := dpa_getd t i v (by simpa using e)
    exact ⟨d, by simpa using a, b⟩
theorem dpa_app {K : PySem.W.Frag} {B : Hp} : ∀ {vs ws : List V} {ds es : List PyData}, DqAll K B vs ds → DqAll K B ws es → DqAll K B (vs ++ ws) (ds ++ es)
  | _, _, _, _, .nil, s => s
  | _, _, _, _, .cons h t, s => .cons h (dpa_app t s)
theorem dpa_take {K : PySem.W.Frag} {B : Hp} : ∀ {vs : List V} {ds : List PyData} (n : Nat), DqAll K B vs ds → DqAll K B (vs.take n) (ds.take n)
  | _, _, 0, _ => .nil
  | _, _, _ + 1, .nil => .nil
  | _, _, n + 1, .cons h t => .cons h (dpa_take n t)
theorem dpa_drop {K : PySem.W.Frag} {B : Hp} : ∀ {vs : List V} {ds : List PyData} (n : Nat), DqAll K B vs ds → DqAll K B (vs.drop n) (ds.drop n)
  | _, _, 0, h => h
  | _, _, _ + 1, .nil => .nil
  | _, _, n + 1, .cons h t => dpa_drop n t
theorem dpa_set {K : PySem.W.Frag} {B : Hp} {v : V} {d : PyData} (h : Dq K B v d) : ∀ {vs : List V} {ds : List PyData} (n : Nat), DqAll K B vs ds → DqAll K B (vs.set n v) (ds.set n d)
  | _, _, _, .nil => .nil
  | _, _, 0, .cons _ t => .cons h t
  | _, _, n + 1, .cons q t => .cons q (dpa_set h n t)
theorem dpa_rev {K : PySem.W.Frag} {B : Hp} : ∀ {vs : List V} {ds : List PyData}, DqAll K B vs ds → DqAll K B vs.reverse ds.reverse
  | _, _, .nil => .nil
  | _, _, .cons h t => by
    rw [List.reverse_cons, List.reverse_cons]
    exact dpa_app (dpa_rev t) (.cons h .nil)

/-! ### slots -/
inductive Fd where
  | v (d : PyData)
  | ol (ds : List PyData)
inductive Sl where
  | no
  | v (d : PyData)
  | r (x : V)
  | ol (ds : List PyData)
  | od (kvs : List (Key × PyData))
  | ot (kvs : List (List Key × PyData))
  | ob (a : Addr) (c : Str) (fs : List (Str × Fd))
  | ll (os : List (Addr × List PyData))
  | lo (c : Str) (os : List (Addr × List (Str × Fd)))
/-- the tag of a part of the item j of a list -/
def tgS (j : Nat) (f : Option Str) : Str := ⟨(j :: (match f with | none => [] | some s => 0 :: s.cps.toList)).toArray⟩
theorem tgS_inj {j j' : Nat} {f f' : Option Str} (h : tgS j f = tgS j' f') : j = j' ∧ f = f' := by
  unfold tgS at h
  injection h with h
  have h := congrArg Array.toList h
  rw [List.toList_toArray, List.toList_toArray] at h
  injection h with h1 h2
  refine ⟨h1, ?_⟩
  cases f with
  | none =>
    cases f' with
    | none => rfl
    | some s' => cases h2
  | some s =>
    cases f' with
    | none => cases h2
    | some s' =>
      injection h2 with _ h2
      have h3 : s.cps = s'.cps := Array.toList_inj.mp h2
      cases s
      cases s'
      cases h3
      rfl
abbrev Own := Addr → Option (Nat × Option Str)
def KDp {κ : Type} (K : PySem.W.Frag) (B : Hp) : List (κ × V) → List (κ × PyData) → Prop := Paired fun p q => p.1 = q.1 ∧ Dq K B p.2 q.2
def FdH (K : PySem.W.Frag) (B H : Hp) (O : Own) (i : Nat) (f : Str) (y : V) : Fd → Prop
  | .v d => Dq K B y d
  | .ol ds => ∃ l xs, y = .ref l ∧ O l = some (i, some f) ∧ H l = some (.lst xs) ∧ DqAll K B xs ds
/-- the object at a, the item j of a list in slot i -/
def ObJ (K : PySem.W.Frag) (B H : Hp) (O : Own) (i j : Nat) (a : Addr) (c : Str) (fs : List (Str × Fd)) : Prop := ∃ dx gs, O a = some (i, some (tgS j none)) ∧ O dx = some (i, some (tgS j (some ("__dict__" : Str)))) ∧ H a = some (.ins (clsA K c) dx gs) ∧ H dx = some (.own a) ∧ gs.length < 1000 ∧
      Paired (fun (p : Str × V) (q : Str × Fd) => p.1 = q.1 ∧ FdH K B H O i (tgS j (some p.1)) p.2 q.2) gs fs
def Hold (K : PySem.W.Frag) (B H : Hp) (O : Own) (i : Nat) (x : V) : Sl → Prop
  | .ll os => ∃ l, x = .ref l ∧ O l = some (i, none) ∧ H l = some (.lst (os.map fun o => V.ref o.1)) ∧ ∀ (j : Nat) (a : Addr) (ds : List PyData), os[j]? = some (a, ds) → O a = some (i, some (tgS j none)) ∧ ∃ xs, H a = some (.lst xs) ∧ DqAll K B xs ds
  | .lo c os => ∃ l, x = .ref l ∧ O l = some (i, none) ∧ H l = some (.lst (os.map fun o => V.ref o.1)) ∧ ∀ (j : Nat) (a : Addr) (fs : List (Str × Fd)), os[j]? = some (a, fs) → ObJ K B H O i j a c fs
  | .no => True
  | .v d => Dq K B x d
  | .r y => x = y
  | .ol ds => ∃ l xs, x = .ref l ∧ O l = some (i, none) ∧ H l = some (.lst xs) ∧ DqAll K B xs ds
  | .od kvs => ∃ l ys, x = .ref l ∧ O l = some (i, none) ∧ H l = some (.dK ys) ∧ KDp K B ys kvs
  | .ot kvs => ∃ l ys, x = .ref l ∧ O l = some (i, none) ∧ H l = some (.dT ys) ∧ KDp K B ys kvs
  | .ob a c fs => ∃ dx gs, x = .ref a ∧ O a = some (i, none) ∧ O dx = some (i, some ("__dict__" : Str)) ∧ H a = some (.ins (clsA K c) dx gs) ∧ H dx = some (.own a) ∧ gs.length < 1000 ∧
      Paired (fun (p : Str × V) (q : Str × Fd) => p.1 = q.1 ∧ FdH K B H O i p.1 p.2 q.2) gs fs
theorem kdp_ks {κ : Type} {K : PySem.W.Frag} {B : Hp} {ys : List (κ × V)} {kvs : List (κ × PyData)} (h : KDp K B ys kvs) : ys.map (·.1) = kvs.map (·.1) := by
  unfold KDp at h
  induction h with
  | nil => rfl
  | cons r t ih => rw [List.map_cons, List.map_cons, ih, r.1]
theorem kdp_vals {κ : Type} {K : PySem.W.Frag} {B : Hp} {ys : List (κ × V)} {kvs : List (κ × PyData)} (h : KDp K B ys kvs) : DqAll K B (ys.map (·.2)) (kvs.map (·.2)) := by
  unfold KDp at h
  induction h with
  | nil => exact .nil
  | cons r t ih => exact .cons r.2 ih
theorem kdp_of {κ : Type} {K : PySem.W.Frag} {B : Hp} : ∀ {ys : List (κ × V)} {kvs : List (κ × PyData)}, ys.map (·.1) = kvs.map (·.1) → DqAll K B (ys.map (·.2)) (kvs.map (·.2)) → KDp K B ys kvs
  | [], [], _, _ => .nil
  | [], _ :: _, h, _ => by cases h
  | _ :: _, [], h, _ => by cases h
  | y :: ys, q :: kvs, h, t => by
    injection h with h1 h2
    cases t with
    | cons p t => exact .cons ⟨h1, p⟩ (kdp_of h2 t)
theorem kdp_mono {κ : Type} {K : PySem.W.Frag} {B B' : Hp} (e : Same B B') {ys : List (κ × V)} {kvs : List (κ × PyData)} (h : KDp K B ys kvs) : KDp K B' ys kvs :=
  Paired.mapP h fun _ _ z => ⟨z.1, dp_mono e z.2⟩
theorem fdh_mono {K : PySem.W.Frag} {B B' H H' : Hp} {O O' : Own} {i : Nat} {f : Str} {y : V} {d : Fd} (e : Same B B') (hO : ∀ a, O a = some (i, some f) → O' a = some (i, some f) ∧ H' a = H a) (h : FdH K B H O i f y d) : FdH K B' H' O' i f y d := by
  cases d with
  | v d => exact dp_mono e h
  | ol ds =>
    obtain ⟨l, xs, e1, e2, e3, e4⟩ := h
    exact ⟨l, xs, e1, (hO l e2).1, by rw [(hO l e2).2]; exact e3, dpa_mono e e4⟩
theorem obj_mono {K : PySem.W.Frag} {B B' H H' : Hp} {O O' : Own} {i j : Nat} {a : Addr} {c : Str} {fs : List (Str × Fd)} (e : Same B B') (hO : ∀ a t, O a = some (i, some (tgS j t)) → O' a = some (i, some (tgS j t)) ∧ H' a = H a) (h : ObJ K B H O i j a c fs) : ObJ K B' H' O' i j a c fs := by
  obtain ⟨dx, gs, e2, e3, e4, e5, e6, e7⟩ := h
  refine ⟨dx, gs, (hO a _ e2).1, (hO dx _ e3).1, by rw [(hO a _ e2).2]; exact e4, by rw [(hO dx _ e3).2]; exact e5, e6, ?_⟩
  exact Paired.mapP e7 fun p q z => ⟨z.1, fdh_mono e (fun b hb => hO b _ hb) z.2⟩
theorem hold_mono {K : PySem.W.Frag} {B B' H H' : Hp} {O O' : Own} {i : Nat} {x : V} {s : Sl} (e : Same B B') (hO : ∀ a t, O a = some (i, t) → O' a = some (i, t) ∧ H' a = H a) (h : Hold K B H O i x s) : Hold K B' H' O' i x s := by
  cases s with
  | no => trivial
  | v d => exact dp_mono e h
  | r y => exact h
  | ol ds =>
    obtain ⟨l, xs, e1, e2, e3, e4⟩ := h
    exact ⟨l, xs, e1, (hO l _ e2).1, by rw [(hO l _ e2).2]; exact e3, dpa_mono e e4⟩
  | od ds =>
    obtain ⟨l, xs, e1, e2, e3, e4⟩ := h
    exact ⟨l, xs, e1, (hO l _ e2).1, by rw [(hO l _ e2).2]; exact e3, kdp_mono e e4⟩
  | ot ds =>
    obtain ⟨l, xs, e1, e2, e3, e4⟩ := h
    exact ⟨l, xs, e1, (hO l _ e2).1, by rw [(hO l _ e2).2]; exact e3, kdp_mono e e4⟩
  | ll os =>
    obtain ⟨l, e1, e2, e3, e5⟩ := h
    refine ⟨l, e1, (hO l _ e2).1, by rw [(hO l _ e2).2]; exact e3, fun j a ds h1 => ?_⟩
    obtain ⟨f1, xs, f2, f3⟩ := e5 j a ds h1
    exact ⟨(hO a _ f1).1, xs, by rw [(hO a _ f1).2]; exact f2, dpa_mono e f3⟩
  | lo c os =>
    obtain ⟨l, e1, e2, e3, e4⟩ := h
    exact ⟨l, e1, (hO l _ e2).1, by rw [(hO l _ e2).2]; exact e3, fun j a fs h1 => obj_mono e (fun b t hb => hO b _ hb) (e4 j a fs h1)⟩
  | ob a c fs =>
    obtain ⟨dx, gs, e1, e2, e3, e4, e5, e6, e7⟩ := h
    refine ⟨dx, gs, e1, (hO a _ e2).1, (hO dx _ e3).1, by rw [(hO a _ e2).2]; exact e4, by rw [(hO dx _ e3).2]; exact e5, e6, ?_⟩
    exact Paired.mapP e7 fun p q z => ⟨z.1, fdh_mono e (fun b hb => hO b _ hb) z.2⟩

/-- B: what is shared and stays; F: what else stays; the slots own the rest -/
structure EnvB (K : PySem.W.Frag) (B F H : Hp) (σ : L2.St) (ρ : List Sl) : Prop where
  ln : σ.length = ρ.length
  bh : Same B H
  fh : Same F H
  dj : ∀ a o, F a = some o → B a = none ∧ ∀ xs, o ≠ .tup xs
  own : ∃ O : Own, (∀ a t, O a = some t → B a = none ∧ F a = none ∧ H a ≠ none) ∧ ∀ i s, ρ[i]? = some s → s = .no ∨ ∃ x, σ[i]? = some (some x) ∧ Hold K B H O i x s

theorem same_upd {H : Hp} {p : Addr} {o : HO} (h : H p = none) : Same H (upd H p o) := fun b x e => by
  rw [upd_ne (ne_of_none e h)]
  exact e
theorem same_upd2 {B H : Hp} {p : Addr} {o : HO} (h : Same B H) : Same (upd B p o) (upd H p o) := fun b x e => by
  by_cases hb : b = p
  · subst hb
    rw [upd_same] at e ⊢
    exact e
  · rw [upd_ne hb] at e ⊢
    exact h b x e
/-- a new object that is shared -/
theorem EnvB.new {K : PySem.W.Frag} {B F H : Hp} {σ : L2.St} {ρ : List Sl} (I : EnvB K B F H σ ρ) {p : Addr} {o : HO} (h : H p = none) : Same B (upd B p o) ∧ EnvB K (upd B p o) F (upd H p o) σ ρ := by
  have hb : B p = none := I.bh.free h
  refine ⟨same_upd hb, I.ln, same_upd2 I.bh, I.fh.trans (same_upd h), fun a u e => ?_, ?_⟩
  · have hn : a ≠ p := ne_of_none (I.fh a u e) h
    rw [upd_ne hn]
    exact I.dj a u e
  · obtain ⟨O, h1, h2⟩ := I.own
    have hp : ∀ a t, O a = some t → a ≠ p := fun a t e z => (h1 a t e).2.2 (by rw [z]; exact h)
    refine ⟨O, fun a t e => ?_, fun i s hs => ?_⟩
    · obtain ⟨q1, q2, q3⟩ := h1 a t e
      rw [upd_ne (hp a t e), upd_ne (hp a t e)]
      exact ⟨q1, q2, q3⟩
    · rcases h2 i s hs with z | ⟨x, hx, hh⟩
      · exact .inl z
      · exact .inr ⟨x, hx, hold_mono (same_upd hb) (fun a t e => ⟨e, upd_ne (hp a _ e)⟩) hh⟩
/-- a new object that is not shared: it goes to the frame -/
theorem EnvB.lay {K : PySem.W.Frag} {B F H : Hp} {σ : L2.St} {ρ : List Sl} (I : EnvB K B F H σ ρ) {p : Addr} {o : HO} (h : H p = none) (ho : ∀ xs, o ≠ .tup xs := by (intro _ z; cases z)) : EnvB K B (upd F p o) (upd H p o) σ ρ := by
  have hb : B p = none := I.bh.free h
  refine ⟨I.ln, I.bh.trans (same_upd h), same_upd2 I.fh, fun a u e => ?_, ?_⟩
  · by_cases ha : a = p
    · rw [ha, upd_same] at e
      cases e
      rw [ha]; exact ⟨hb, ho⟩
    · rw [upd_ne ha] at e
      exact I.dj a u e
  · obtain ⟨O, h1, h2⟩ := I.own
    have hp : ∀ a t, O a = some t → a ≠ p := fun a t e z => (h1 a t e).2.2 (by rw [z]; exact h)
    refine ⟨O, fun a t e => ?_, fun i s hs => ?_⟩
    · obtain ⟨q1, q2, q3⟩ := h1 a t e
      rw [upd_ne (hp a t e), upd_ne (hp a t e)]
      exact ⟨q1, q2, q3⟩
    · rcases h2 i s hs with z | ⟨x, hx, hh⟩
      · exact .inl z
      · exact .inr ⟨x, hx, hold_mono (Same.refl B) (fun a t e => ⟨e, upd_ne (hp a _ e)⟩) hh⟩
/-- what the frame holds at p changes -/
theorem EnvB.relay {K : PySem.W.Frag} {B F H : Hp} {σ : L2.St} {ρ : List Sl} {p : Addr} {o o' : HO} (I : EnvB K B F H σ ρ) (h : F p = some o) (ho : ∀ xs, o' ≠ .tup xs := by (intro _ z; cases z)) : EnvB K B (upd F p o') (upd H p o') σ ρ := by
  have hb : B p = none := (I.dj p o h).1
  refine ⟨I.ln, fun a u e => ?_, same_upd2 I.fh, fun a u e => ?_, ?_⟩
  · rw [upd_ne (ne_of_none e hb)]
    exact I.bh a u e
  · by_cases ha : a = p
    · rw [ha, upd_same] at e
      cases e
      rw [ha]; exact ⟨hb, ho⟩
    · rw [upd_ne ha] at e
      exact I.dj a u e
  · obtain ⟨O, h1, h2⟩ := I.own
    have hp : ∀ a t, O a = some t → a ≠ p := fun a t e z => by
      have q := (h1 a t e).2.1
      rw [z, h] at q
      cases q
    refine ⟨O, fun a t e => ?_, fun i s hs => ?_⟩
    · obtain ⟨q1, q2, q3⟩ := h1 a t e
      rw [upd_ne (hp a t e), upd_ne (hp a t e)]
      exact ⟨q1, q2, q3⟩
    · rcases h2 i s hs with z | ⟨x, hx, hh⟩
      · exact .inl z
      · exact .inr ⟨x, hx, hold_mono (Same.refl B) (fun a t e => ⟨e, upd_ne (hp a _ e)⟩) hh⟩
/-- the frame's p becomes shared -/
theorem EnvB.share {K : PySem.W.Frag} {B F H : Hp} {σ : L2.St} {ρ : List Sl} {p : Addr} {o : HO} (I : EnvB K B (upd F p o) H σ ρ) (h : F p = none) : Same B (upd B p o) ∧ EnvB K (upd B p o) F H σ ρ := by
  have hp : H p = some o := I.fh p o upd_same
  have hb : B p = none := (I.dj p o upd_same).1
  have sb : Same B (upd B p o) := same_upd hb
  have sf : Same F (upd F p o) := same_upd h
  refine ⟨sb, I.ln, fun a u e => ?_, sf.trans I.fh, fun a u e => ?_, ?_⟩
  · by_cases ha : a = p
    · rw [ha, upd_same] at e
      rw [ha, hp]; exact e
    · rw [upd_ne ha] at e
      exact I.bh a u e
  · rw [upd_ne (ne_of_none e h)]
    exact I.dj a u (sf a u e)
  · obtain ⟨O, h1, h2⟩ := I.own
    have hq : ∀ a t, O a = some t → a ≠ p := fun a t e z => by
      have q := (h1 a t e).2.1
      rw [z, upd_same] at q
      cases q
    refine ⟨O, fun a t e => ?_, fun i s hs => ?_⟩
    · obtain ⟨q1, q2, q3⟩ := h1 a t e
      rw [upd_ne (hq a t e)] at q2 ⊢
      exact ⟨q1, q2, q3⟩
    · rcases h2 i s hs with z | ⟨x, hx, hh⟩
      · exact .inl z
      · exact .inr ⟨x, hx, hold_mono sb (fun a t e => ⟨e, rfl⟩) hh⟩
/-- a slot gets a shared value -/
theorem EnvB.setv {K : PySem.W.Frag} {B F H : Hp} {σ : L2.St} {ρ : List Sl} (I : EnvB K B F H σ ρ) {x : V} {d : PyData} (i : Nat) (hi : i < ρ.length) (h : Dq K B x d) : EnvB K B F H (σ.set i (some x)) (ρ.set i (.v d)) := by
  have hi : i < σ.length := by rw [I.ln]; exact hi
  refine ⟨by rw [List.length_set, List.length_set, I.ln], I.bh, I.fh, I.dj, ?_⟩
  obtain ⟨O, h1, h2⟩ := I.own
  refine ⟨O, h1, fun j s hs => ?_⟩
  by_cases hj : i = j
  · subst hj
    by_cases hl : i < ρ.length
    · rw [List.getElem?_set_self hl] at hs
      cases hs
      exact .inr ⟨x, by rw [List.getElem?_set_self hi], h⟩
    · rw [List.getElem?_eq_none (by rw [List.length_set]; omega)] at hs
      cases hs
  · rw [List.getElem?_set_ne hj] at hs ⊢
    exact h2 j s hs
/-- a slot gets any value, of which nothing is kept -/
theorem EnvB.setno {K : PySem.W.Frag} {B F H : Hp} {σ : L2.St} {ρ : List Sl} (I : EnvB K B F H σ ρ) (i : Nat) (o : Option V) : EnvB K B F H (σ.set i o) (ρ.set i .no) := by
  refine ⟨by rw [List.length_set, List.length_set, I.ln], I.bh, I.fh, I.dj, ?_⟩
  obtain ⟨O, h1, h2⟩ := I.own
  refine ⟨O, h1, fun j s hs => ?_⟩
  by_cases hj : i = j
  · subst hj
    by_cases hl : i < ρ.length
    · rw [List.getElem?_set_self hl] at hs
      cases hs
      exact .inl rfl
    · rw [List.getElem?_eq_none (by rw [List.length_set]; omega)] at hs
      cases hs
  · rw [List.getElem?_set_ne hj] at hs ⊢
    exact h2 j s hs
/-- a slot gets a new list that it owns -/
theorem EnvB.setol {K : PySem.W.Frag} {B F H : Hp} {σ : L2.St} {ρ : List Sl} {p : Addr} {xs : List V} {ds : List PyData} (I : EnvB K B (upd F p (.lst xs)) H σ ρ) (h : F p = none) (hd : DqAll K B xs ds) (i : Nat) (hi : i < ρ.length) :
    EnvB K B F H (σ.set i (some (.ref p))) (ρ.set i (.ol ds)) := by
  have hp : H p = some (.lst xs) := I.fh p _ upd_same
  have hb : B p = none := (I.dj p _ upd_same).1
  have sf : Same F (upd F p (.lst xs)) := same_upd h
  have hi : i < σ.length := by rw [I.ln]; exact hi
  refine ⟨by rw [List.length_set, List.length_set, I.ln], I.bh, sf.trans I.fh, fun a u e => I.dj a u (sf a u e), ?_⟩
  obtain ⟨O, h1, h2⟩ := I.own
  have hq : ∀ a t, O a = some t → a ≠ p := fun a t e z => by
    have q := (h1 a t e).2.1
    rw [z, upd_same] at q
    cases q
  refine ⟨fun a => if a = p then some (i, none) else if O a = some (i, none) then none else O a, fun a t e => ?_, fun j s hs => ?_⟩
  · by_cases ha : a = p
    · rw [ha]
      exact ⟨hb, h, by rw [hp]; simp⟩
    · dsimp only at e
      rw [if_neg ha] at e
      split at e
      · cases e
      · obtain ⟨q1, q2, q3⟩ := h1 a t e
        rw [upd_ne ha] at q2
        exact ⟨q1, q2, q3⟩
  · by_cases hj : i = j
    · subst hj
      by_cases hl : i < ρ.length
      · rw [List.getElem?_set_self hl] at hs
        cases hs
        exact .inr ⟨.ref p, by rw [List.getElem?_set_self hi], p, xs, rfl, if_pos rfl, hp, hd⟩
      · rw [List.getElem?_eq_none (by rw [List.length_set]; omega)] at hs
        cases hs
    · rw [List.getElem?_set_ne hj] at hs ⊢
      rcases h2 j s hs with z | ⟨x, hx, hh⟩
      · exact .inl z
      · refine .inr ⟨x, hx, hold_mono (Same.refl B) (fun a t e => ⟨?_, rfl⟩) hh⟩
        rw [if_neg (hq a _ e), if_neg (by rw [e]; intro z; injection z with z; injection z with z _; exact hj z.symm)]
        exact e
/-- the list that slot i owns changes -/
theorem EnvB.mutol {K : PySem.W.Frag} {B F H : Hp} {σ : L2.St} {ρ : List Sl} {i : Nat} {ds : List PyData} (I : EnvB K B F H σ ρ) (hi : ρ[i]? = some (.ol ds)) :
    ∃ l xs, σ[i]? = some (some (.ref l)) ∧ H l = some (.lst xs) ∧ DqAll K B xs ds ∧ ∀ xs' ds', DqAll K B xs' ds' → EnvB K B F (upd H l (.lst xs')) σ (ρ.set i (.ol ds')) := by
  obtain ⟨O, h1, h2⟩ := I.own
  rcases h2 i _ hi with z | ⟨x, hx, l, xs, e1, e2, e3, e4⟩
  · cases z
  · subst e1
    refine ⟨l, xs, hx, e3, e4, fun xs' ds' hd => ?_⟩
    obtain ⟨q1, q2, q3⟩ := h1 l _ e2
    refine ⟨by rw [List.length_set, I.ln], fun a u e => ?_, fun a u e => ?_, I.dj, O, fun a t e => ?_, fun j s hs => ?_⟩
    · rw [upd_ne (ne_of_none e q1)]; exact I.bh a u e
    · rw [upd_ne (ne_of_none e q2)]; exact I.fh a u e
    · refine ⟨(h1 a t e).1, (h1 a t e).2.1, ?_⟩
      by_cases ha : a = l
      · rw [ha, upd_same]; simp
      · rw [upd_ne ha]; exact (h1 a t e).2.2
    · by_cases hj : i = j
      · subst hj
        have hl : i < ρ.length := (List.getElem?_eq_some_iff.mp hi).1
        rw [List.getElem?_set_self hl] at hs
        cases hs
        exact .inr ⟨.ref l, hx, l, xs', rfl, e2, upd_same, hd⟩
      · rw [List.getElem?_set_ne hj] at hs
        rcases h2 j s hs with z | ⟨x, hx, hh⟩
        · exact .inl z
        · refine .inr ⟨x, hx, hold_mono (Same.refl B) (fun a t e => ⟨e, upd_ne fun z => ?_⟩) hh⟩
          subst z
          rw [e2] at e
          injection e with e
          injection e with e _
          exact hj e

/-! ### weaker slots -/
def Le1 (a b : Sl) : Prop := a = b ∨ a = .no
def Le (a b : List Sl) : Prop := a.length = b.length ∧ ∀ (i : Nat) (s : Sl), a[i]? = some s → s = Sl.no ∨ b[i]? = some s
theorem EnvB.le {K : PySem.W.Frag} {B F H : Hp} {σ : L2.St} {ρ ρ' : List Sl} (I : EnvB K B F H σ ρ) (h : Le ρ' ρ) : EnvB K B F H σ ρ' := by
  refine ⟨by rw [I.ln, h.1], I.bh, I.fh, I.dj, ?_⟩
  obtain ⟨O, h1, h2⟩ := I.own
  refine ⟨O, h1, fun i s hs => ?_⟩
  rcases h.2 i s hs with z | z
  · exact .inl z
  · exact h2 i s z
theorem Le.refl (a : List Sl) : Le a a := ⟨rfl, fun _ _ h => .inr h⟩
theorem le_nil : Le [] [] := Le.refl _
theorem le_same {x : Sl} {a b : List Sl} (h : Le a b) : Le (x :: a) (x :: b) := ⟨by rw [List.length_cons, List.length_cons, h.1], fun i s hs => match i, hs with
  | 0, hs => .inr hs
  | i + 1, hs => h.2 i s hs⟩
theorem le_drop {x : Sl} {a b : List Sl} (h : Le a b) : Le (.no :: a) (x :: b) := ⟨by rw [List.length_cons, List.length_cons, h.1], fun i s hs => match i, hs with
  | 0, hs => .inl (by simpa using hs.symm)
  | i + 1, hs => h.2 i s hs⟩
/-- an owned list is given up: it is shared from now on -/
theorem EnvB.freeze {K : PySem.W.Frag} {B F H : Hp} {σ : L2.St} {ρ : List Sl} {i : Nat} {ds : List PyData} (I : EnvB K B F H σ ρ) (hi : ρ[i]? = some (.ol ds)) : ∃ B', Same B B' ∧ EnvB K B' F H σ (ρ.set i (.v (.list ds))) := by
  obtain ⟨O, h1, h2⟩ := I.own
  rcases h2 i _ hi with z | ⟨x, hx, l, xs, e1, e2, e3, e4⟩
  · cases z
  · subst e1
    obtain ⟨q1, q2, q3⟩ := h1 l _ e2
    have sb : Same B (upd B l (.lst xs)) := same_upd q1
    refine ⟨upd B l (.lst xs), sb, by rw [List.length_set, I.ln], fun a u e => ?_, I.fh, fun a u e => ?_, fun a => if a = l then none else O a, fun a t e => ?_, fun j s hs => ?_⟩
    · by_cases ha : a = l
      · rw [ha, upd_same] at e
        rw [ha, e3]; exact e
      · rw [upd_ne ha] at e
        exact I.bh a u e
    · rw [upd_ne (ne_of_none e q2)]
      exact I.dj a u e
    · dsimp only at e
      split at e
      · cases e
      · rename_i ha
        rw [upd_ne ha]
        exact h1 a t e
    · by_cases hj : i = j
      · subst hj
        have hl : i < ρ.length := (List.getElem?_eq_some_iff.mp hi).1
        rw [List.getElem?_set_self hl] at hs
        cases hs
        exact .inr ⟨.ref l, hx, .lst upd_same (dpa_mono sb e4)⟩
      · rw [List.getElem?_set_ne hj] at hs
        rcases h2 j s hs with z | ⟨x, hx, hh⟩
        · exact .inl z
        · refine .inr ⟨x, hx, hold_mono sb (fun a t e => ⟨?_, rfl⟩) hh⟩
          rw [if_neg fun z => ?_]
          · exact e
          · subst z
            rw [e2] at e
            injection e with e
            injection e with e _
            exact hj e
end Dl

namespace Dl
open PySem PySem.Spec PyProof.Rows L2

/-! ### the semantic readings -/
def semE (X : Cx) (e : Expr) : TE := fun σ H Q => ∀ (pins : List (Addr × Obj)) (s : Shared), Inv X pins σ H s → wpAny (model X.prog X.w) X.A (eval e X.env) (EP X pins σ Q) X.xe s
def semT (X : Cx) (e : Expr) : TT := fun σ H Q => ∀ (pins : List (Addr × Obj)) (s : Shared), Inv X pins σ H s → wpAny (model X.prog X.w) X.A (isTrue e X.env (eval e X.env)) (TP X pins σ Q) X.xe s
def semW (X : Cx) (e : Expr) : TT := fun σ H Q => ∀ (whole : Sem Value) (pins : List (Addr × Obj)) (s : Shared), Inv X pins σ H s → wpAny (model X.prog X.w) X.A (isTrue e X.env whole) (TP X pins σ Q) X.xe s
def semA (X : Cx) (es : List Expr) : TA := fun σ H Q => ∀ (pos : Pos) (pins : List (Addr × Obj)) (s : Shared), Inv X pins σ H s → wpAny (model X.prog X.w) X.A (spliced (backTo pos (starEach es X.env))) (AP X pins σ Q) X.xe s
def semS (X : Cx) (st : Stmt) : TS := fun D σ H => ∀ (pins : List (Addr × Obj)) (s : Shared), Inv X pins σ H s → wpAny (model X.prog X.w) X.A (exec st X.env) (SP X pins D) X.xe s
def semB (X : Cx) (st : List Stmt) : TS := fun D σ H => ∀ (pins : List (Addr × Obj)) (s : Shared), Inv X pins σ H s → wpAny (model X.prog X.w) X.A (execs st X.env) (SP X pins D) X.xe s
def semI (X : Cx) (tg iter : Expr) : TI := fun σ H R => ∀ (pins : List (Addr × Obj)) (s : Shared), Inv X pins σ H s →
    wpAny (model X.prog X.w) X.A (eval iter X.env) (fun v s1 => wpAny (model X.prog X.w) X.A (pyIter v) (PIE X pins σ tg R) X.xe s1) X.xe s
theorem pe_sem {X : Cx} {e : Expr} : PE X e (semE X e) := ⟨fun pins s _ _ _ I h => h pins s I⟩
theorem pt_sem {X : Cx} {e : Expr} : PT X e (semT X e) := ⟨fun pins s _ _ _ I h => h pins s I⟩
theorem pw_sem {X : Cx} {e : Expr} : PW X e (semW X e) := ⟨fun wh pins s _ _ _ I h => h wh pins s I⟩
theorem pa_sem {X : Cx} {es : List Expr} : PA X es (semA X es) := ⟨fun pos pins s _ _ _ I h => h pos pins s I⟩
theorem ps_sem {X : Cx} {st : Stmt} : PS X st (semS X st) := ⟨fun pins s _ _ _ I h => h pins s I⟩
theorem pb_sem {X : Cx} {st : List Stmt} : PSs X st (semB X st) := ⟨fun pins s _ _ _ I h => h pins s I⟩
theorem pi_sem {X : Cx} {tg iter : Expr} : PI X tg iter (semI X tg iter) := ⟨fun pins s _ _ _ I h => h pins s I⟩

/-! ### where one stands -/
structure Md where
  P : Program
  w : World
  K : PySem.W.Frag
  mg : Str → Option Value
  base : Heap
/-- a scope as it is read, and as it is stored to -/
structure Sco where
  rd : Scope
  st : Scope
def visB (sc : Sco) (x : Str) : Bool := match sc.rd.names.lookup x with
  | some .local => true
  | some .cell => true
  | some .free => true
  | _ => false
def locB (sc : Sco) (x : Str) : Bool := match sc.st.names.lookup x with
  | some .local => true
  | some .cell => true
  | _ => false
def glB (sc : Sco) (x : Str) : Bool := match sc.rd.names.lookup x with
  | some .globalImplicit => true
  | _ => false
structure Cv (M : Md) (N : List Str) (sc : Sco) (X : Cx) : Prop where
  eP : X.prog = M.P
  ew : X.w = M.w
  eK : X.K = M.K
  eg : X.mg = M.mg
  eb : X.base = M.base
  hN : X.N = N
  nd : N.Nodup
  hs : X.env.scope = sc.rd
  kind : sc.rd.kind = .function
  loc : ∀ {x}, locB sc x = true → Loc X.env.scope x ∧ (X.fn x = true ∨ X.env.scope.names.lookup x = some .local)
  un : X.A.units + 200 < cLine
structure Cn (M : Md) (k : Nat) (N : List Str) (sc : Sco) (X : Cx) (W : WX) : Prop extends Cv M N sc X where
  calm : X.calm = true
  room : Room k X.A
  tk : L2N.Takes X W
  po : PassesOwn (model X.prog X.w) X.A X.env X.xe
def okN (x : Str) : Bool := !(x == ("__debug__" : Str)) && !(x == ("__classdict__" : Str)) && !decide (x = ("__name__" : Str))
theorem okN1 {x : Str} (h : okN x = true) : (x == ("__debug__" : Str)) = false := by
  unfold okN at h
  rw [Bool.and_eq_true, Bool.and_eq_true] at h
  simpa using h.1.1
theorem okN2 {x : Str} (h : okN x = true) : (x == ("__classdict__" : Str)) = false := by
  unfold okN at h
  rw [Bool.and_eq_true, Bool.and_eq_true] at h
  simpa using h.1.2
theorem okN3 {x : Str} (h : okN x = true) : x ≠ ("__name__" : Str) := by
  unfold okN at h
  rw [Bool.and_eq_true, Bool.and_eq_true] at h
  simpa using h.2
theorem Cv.vis {M : Md} {N : List Str} {sc : Sco} {X : Cx} (c : Cv M N sc X) {x : Str} (h : visB sc x = true) : Vis X.env.scope x := by
  rw [c.hs]
  unfold visB at h
  split at h
  · exact .inl (by assumption)
  · exact .inr (.inl (by assumption))
  · exact .inr (.inr (by assumption))
  · cases h
theorem Cv.gl {M : Md} {N : List Str} {sc : Sco} {X : Cx} (c : Cv M N sc X) {x : Str} (h : glB sc x = true) : Gl X x := by
  show X.env.scope.names.lookup x = some .globalImplicit
  rw [c.hs]
  unfold glB at h
  split at h
  · assumption
  · cases h
theorem loc_def {sc : Scope} {X : Cx} (hs : X.env.scope = sc) (hf : ∀ x, X.fn x = true) {x : Str} (h : locB ⟨sc, sc⟩ x = true) : Loc X.env.scope x ∧ (X.fn x = true ∨ X.env.scope.names.lookup x = some .local) := by
  rw [hs]
  unfold locB at h
  split at h
  · exact ⟨.inl (by assumption), .inr (by assumption)⟩
  · exact ⟨.inr (by assumption), .inl (hf x)⟩
  · cases h

/-! ### judgements -/
def DE (M : Md) (X : Cx) (e : Expr) (ρ : List Sl) (d : PyData) : Prop := ∀ B F σ H, EnvB M.K B F H σ ρ → ∀ Q : VK, (∀ v H' B', Same B B' → EnvB M.K B' F H' σ ρ → Dq M.K B' v d → Q v H') → semE X e σ H Q
def DT (M : Md) (X : Cx) (e : Expr) (ρ : List Sl) (b : Bool) : Prop := ∀ B F σ H, EnvB M.K B F H σ ρ → ∀ Q : Bool → Hp → Prop, (∀ H' B', Same B B' → EnvB M.K B' F H' σ ρ → Q b H') → semT X e σ H Q
def DW (M : Md) (X : Cx) (e : Expr) (ρ : List Sl) (b : Bool) : Prop := ∀ B F σ H, EnvB M.K B F H σ ρ → ∀ Q : Bool → Hp → Prop, (∀ H' B', Same B B' → EnvB M.K B' F H' σ ρ → Q b H') → semW X e σ H Q
def DA (M : Md) (X : Cx) (es : List Expr) (ρ : List Sl) (ds : List PyData) : Prop := ∀ B F σ H, EnvB M.K B F H σ ρ → ∀ Q : List V → Hp → Prop, (∀ vs H' B', Same B B' → EnvB M.K B' F H' σ ρ → DqAll M.K B' vs ds → Q vs H') → semA X es σ H Q
/-- a new list, not shared yet -/
def DN (M : Md) (X : Cx) (e : Expr) (ρ : List Sl) (ds : List PyData) : Prop := ∀ B F σ H, EnvB M.K B F H σ ρ → ∀ Q : VK, (∀ p xs H' B', Same B B' → F p = none → EnvB M.K B' (upd F p (.lst xs)) H' σ ρ → DqAll M.K B' xs ds → Q (.ref p) H') → semE X e σ H Q
structure REnds where
  rt : PyData → List Sl → Prop
  ex : Addr → List Sl → Prop := fun _ _ => False
  bk : List Sl → Prop := fun _ => False
  ct : List Sl → Prop := fun _ => False
structure Fits (M : Md) (W : WX) (nx : List Sl → Prop) (R : REnds) (B F : Hp) (E : Ends) : Prop where
  nx : ∀ ρ σ H B', nx ρ → Same B B' → EnvB M.K B' F H σ ρ → E.nx σ H
  rt : ∀ d ρ x σ H B', R.rt d ρ → Same B B' → EnvB M.K B' F H σ ρ → Dq M.K B' x d → E.rt x H
  ex : ∀ C ρ σ H B', R.ex C ρ → Same B B' → EnvB M.K B' F H σ ρ → W (.ref C) none σ H
  bk : ∀ ρ σ H B', R.bk ρ → Same B B' → EnvB M.K B' F H σ ρ → E.bk σ H
  ct : ∀ ρ σ H B', R.ct ρ → Same B B' → EnvB M.K B' F H σ ρ → E.ct σ H
theorem Fits.mono {M : Md} {W : WX} {nx : List Sl → Prop} {R : REnds} {B B1 F : Hp} {E : Ends} (f : Fits M W nx R B F E) (s : Same B B1) : Fits M W nx R B1 F E :=
  ⟨fun ρ σ H B' h t I => f.nx ρ σ H B' h (s.trans t) I, fun d ρ x σ H B' h t I p => f.rt d ρ x σ H B' h (s.trans t) I p, fun C ρ σ H B' h t I => f.ex C ρ σ H B' h (s.trans t) I, fun ρ σ H B' h t I => f.bk ρ σ H B' h (s.trans t) I, fun ρ σ H B' h t I => f.ct ρ σ H B' h (s.trans t) I⟩
def DS (M : Md) (X : Cx) (W : WX) (st : Stmt) (ρ : List Sl) (nx : List Sl → Prop) (R : REnds) : Prop := ∀ B F σ H, EnvB M.K B F H σ ρ → ∀ E : Ends, Fits M W nx R B F E → semS X st E σ H
def DB (M : Md) (X : Cx) (W : WX) (st : List Stmt) (ρ : List Sl) (nx : List Sl → Prop) (R : REnds) : Prop := ∀ B F σ H, EnvB M.K B F H σ ρ → ∀ E : Ends, Fits M W nx R B F E → semB X st E σ H

section
variable {M : Md} {X : Cx} {W : WX} {N : List Str} {sc : Sco} {k : Nat} {ρ : List Sl} {d d1 d2 d3 : PyData} {ds : List PyData} {e a b c' : Expr} {es : List Expr} {pos p2 : Pos} {x : Str} {bb b1 b2 : Bool} {i : Nat}
theorem de_of {t : TE} (h : PE X e t) (hv : ∀ B F σ H, EnvB M.K B F H σ ρ → ∀ Q : VK, (∀ v H' B', Same B B' → EnvB M.K B' F H' σ ρ → Dq M.K B' v d → Q v H') → t σ H Q) : DE M X e ρ d := fun B F σ H I Q q pins s iv => h.run pins s σ H Q iv (hv B F σ H I Q q)
theorem dn_of {t : TE} (h : PE X e t) (hv : ∀ B F σ H, EnvB M.K B F H σ ρ → ∀ Q : VK, (∀ p xs H' B', Same B B' → F p = none → EnvB M.K B' (upd F p (.lst xs)) H' σ ρ → DqAll M.K B' xs ds → Q (.ref p) H') → t σ H Q) : DN M X e ρ ds := fun B F σ H I Q q pins s iv => h.run pins s σ H Q iv (hv B F σ H I Q q)
theorem dt_of {t : TT} (h : PT X e t) (hv : ∀ B F σ H, EnvB M.K B F H σ ρ → ∀ Q : Bool → Hp → Prop, (∀ H' B', Same B B' → EnvB M.K B' F H' σ ρ → Q bb H') → t σ H Q) : DT M X e ρ bb := fun B F σ H I Q q pins s iv => h.run pins s σ H Q iv (hv B F σ H I Q q)
theorem dw_of {t : TT} (h : PW X e t) (hv : ∀ B F σ H, EnvB M.K B F H σ ρ → ∀ Q : Bool → Hp → Prop, (∀ H' B', Same B B' → EnvB M.K B' F H' σ ρ → Q bb H') → t σ H Q) : DW M X e ρ bb := fun B F σ H I Q q wh pins s iv => h.run wh pins s σ H Q iv (hv B F σ H I Q q)
theorem da_of {t : TA} (h : PA X es t) (hv : ∀ B F σ H, EnvB M.K B F H σ ρ → ∀ Q : List V → Hp → Prop, (∀ vs H' B', Same B B' → EnvB M.K B' F H' σ ρ → DqAll M.K B' vs ds → Q vs H') → t σ H Q) : DA M X es ρ ds := fun B F σ H I Q q pos pins s iv => h.run pos pins s σ H Q iv (hv B F σ H I Q q)
theorem ds_of {st : Stmt} {nx : List Sl → Prop} {R : REnds} {t : TS} (h : PS X st t) (hv : ∀ B F σ H, EnvB M.K B F H σ ρ → ∀ E : Ends, Fits M W nx R B F E → t E σ H) : DS M X W st ρ nx R := fun B F σ H I E q pins s iv => h.run pins s σ H E iv (hv B F σ H I E q)
theorem db_of {st : List Stmt} {nx : List Sl → Prop} {R : REnds} {t : TS} (h : PSs X st t) (hv : ∀ B F σ H, EnvB M.K B F H σ ρ → ∀ E : Ends, Fits M W nx R B F E → t E σ H) : DB M X W st ρ nx R := fun B F σ H I E q pins s iv => h.run pins s σ H E iv (hv B F σ H I E q)
theorem DE.eq (h : DE M X e ρ d1) (q : d1 = d) : DE M X e ρ d := q ▸ h
theorem DT.eq (h : DT M X e ρ b1) (q : b1 = bb) : DT M X e ρ bb := q ▸ h
/-- a new list is a list -/
theorem DN.de (h : DN M X e ρ ds) : DE M X e ρ (.list ds) := fun B F σ H I Q q => h B F σ H I Q fun p xs H' B' s hf I1 hd => by
  obtain ⟨s2, I2⟩ := I1.share hf
  exact q _ _ _ (s.trans s2) I2 (.lst upd_same (dpa_mono s2 hd))

/-! ### names, constants -/
theorem EnvB.get {K : PySem.W.Frag} {B F H : Hp} {σ : L2.St} (I : EnvB K B F H σ ρ) (h : ρ[i]? = some (.v d)) : ∃ v, σ[i]? = some (some v) ∧ Dq K B v d := by
  obtain ⟨O, _, h2⟩ := I.own
  rcases h2 i _ h with z | ⟨v, hv, hh⟩
  · cases z
  · exact ⟨v, hv, hh⟩
theorem de_var (c : Cv M N sc X) (i : Nat) (hi : N[i]? = some x) (hd : ρ[i]? = some (.v d)) (hv : (visB sc x && okN x) = true := by decide +kernel) : DE M X (.Name x pos) ρ d := by
  rw [Bool.and_eq_true] at hv
  refine de_of (pe_var (by rw [c.hN]; exact hi) (c.vis hv.1) (okN1 hv.2) (okN2 hv.2)) fun B F σ H I Q q => ?_
  obtain ⟨v, hv, hh⟩ := I.get hd
  exact ⟨v, hv, q v H B (Same.refl B) I hh⟩
theorem de_int {n : Int} {j} : DE M X (.Constant (.int n) j pos) ρ (.int n) := de_of pe_int fun B F σ H I Q q => q _ H B (Same.refl B) I (.int n)
theorem de_str {y : Str} {j} : DE M X (.Constant (.str y) j pos) ρ (.str y) := de_of pe_str fun B F σ H I Q q => q _ H B (Same.refl B) I (.str y)
theorem de_bl {y : Bool} {j} : DE M X (.Constant (.bool y) j pos) ρ (.bool y) := de_of pe_bl fun B F σ H I Q q => q _ H B (Same.refl B) I (.bl y)
theorem de_non {j} : DE M X (.Constant .none j pos) ρ .none := de_of pe_non fun B F σ H I Q q => q _ H B (Same.refl B) I .non
/-- a constant of the module -/
theorem de_glob {v : V} {u : Value} (c : Cv M N sc X) (hm : M.mg x = some u) (r : RelV v u) (hd : ∀ B, Dq M.K B v d) (hv : (glB sc x && okN x) = true := by decide +kernel) : DE M X (.Name x pos) ρ d := by
  rw [Bool.and_eq_true] at hv
  exact de_of (pe_glob (c.gl hv.1) (by rw [c.eg]; exact hm) r (okN1 hv.2)) fun B F σ H I Q q => q _ H B (Same.refl B) I (hd B)

/-! ### operators by data -/
def Op2 (M : Md) (X : Cx) (f : Value → Value → Sem Value) (d1 d2 d : PyData) : Prop := ∃ r : R2, OpR X f r ∧ ∀ B F σ H ρ v1 v2, EnvB M.K B F H σ ρ → Dq M.K B v1 d1 → Dq M.K B v2 d2 → ∀ Q : VK, (∀ v H' B', Same B B' → EnvB M.K B' F H' σ ρ → Dq M.K B' v d → Q v H') → r v1 v2 H Q
theorem run2 {σ : L2.St} {H : Hp} {B F : Hp} {R : V → V → Hp → Prop} (ha : DE M X a ρ d1) (hb : DE M X b ρ d2) (I : EnvB M.K B F H σ ρ)
    (q : ∀ v1 v2 H' B', Same B B' → EnvB M.K B' F H' σ ρ → Dq M.K B' v1 d1 → Dq M.K B' v2 d2 → R v1 v2 H') : semE X a σ H fun v1 H1 => semE X b σ H1 fun v2 H2 => R v1 v2 H2 :=
  ha B F σ H I _ fun v1 H1 B1 s1 I1 p1 => hb B1 F σ H1 I1 _ fun v2 H2 B2 s2 I2 p2 => q v1 v2 H2 B2 (s1.trans s2) I2 (dp_mono s2 p1) p2
theorem de_bin {op : Operator} (ha : DE M X a ρ d1) (hb : DE M X b ρ d2) (ho : Op2 M X (binaryOp op) d1 d2 d) : DE M X (.BinOp a op b pos) ρ d := by
  obtain ⟨r, hr, hq⟩ := ho
  refine de_of (pe_op hr pe_sem pe_sem) fun B F σ H I Q q => run2 (R := fun v1 v2 H' => r v1 v2 H' Q) ha hb I fun v1 v2 H' B' s I' p1 p2 => ?_
  exact hq B' F σ H' ρ v1 v2 I' p1 p2 Q fun v H2 B2 s2 I2 p3 => q v H2 B2 (s.trans s2) I2 p3
theorem de_cmp {op : CmpOp} (ha : DE M X a ρ d1) (hb : DE M X b ρ d2) (ho : Op2 M X (compareOp op) d1 d2 (.bool bb)) (hm : behindInMarks op b = false) : DE M X (.Compare a [op] [b] pos) ρ (.bool bb) := by
  obtain ⟨r, hr, hq⟩ := ho
  refine de_of (pe_cmpR hr pe_sem pe_sem hm) fun B F σ H I Q q => run2 (R := fun v1 v2 H' => r v1 v2 H' Q) ha hb I fun v1 v2 H' B' s I' p1 p2 => ?_
  exact hq B' F σ H' ρ v1 v2 I' p1 p2 Q fun v H2 B2 s2 I2 p3 => q v H2 B2 (s.trans s2) I2 p3
theorem dt_cmp {op : CmpOp} (ha : DE M X a ρ d1) (hb : DE M X b ρ d2) (ho : Op2 M X (compareOp op) d1 d2 (.bool bb)) (hm : behindInMarks op b = false) : DT M X (.Compare a [op] [b] pos) ρ bb := by
  obtain ⟨r, hr, hq⟩ := ho
  refine dt_of (pt_cmpR hr pe_sem pe_sem hm) fun B F σ H I Q q => run2 (R := fun v1 v2 H' => r v1 v2 H' fun x H2 => ∃ k, x = .bl k ∧ Q k H2) ha hb I fun v1 v2 H' B' s I' p1 p2 => ?_
  refine hq B' F σ H' ρ v1 v2 I' p1 p2 _ fun v H2 B2 s2 I2 p3 => ?_
  cases p3
  exact ⟨bb, rfl, q H2 B2 (s.trans s2) I2⟩
/-- a < b < c -/
theorem dt_chain {op op' : CmpOp} (ha : DE M X a ρ d1) (hb : DE M X b ρ d2) (ho : Op2 M X (compareOp op) d1 d2 (.bool b1)) (hc : b1 = true → DE M X c' ρ d3) (ho' : b1 = true → Op2 M X (compareOp op') d2 d3 (.bool b2))
    (hm : lastMarks [op, op'] [b, c'] = false := by with_unfolding_all rfl) (he : bb = (b1 && b2)) : DT M X (.Compare a [op, op'] [b, c'] pos) ρ bb := by
  obtain ⟨r, hr, hq⟩ := ho
  by_cases hb1 : b1 = true
  · obtain ⟨r', hr', hq'⟩ := ho' hb1
    have hc := hc hb1
    refine dt_of (pt_chain hr hr' pe_sem pe_sem pe_sem hm) fun B F σ H I Q q => ?_
    refine ha B F σ H I _ fun v1 H1 B1 s1 I1 p1 => hb B1 F σ H1 I1 _ fun v2 H2 B2 s2 I2 p2 => ?_
    refine hq B2 F σ H2 ρ v1 v2 I2 (dp_mono s2 p1) p2 _ fun v H3 B3 s3 I3 p3 => ?_
    cases p3
    refine ⟨b1, rfl, ?_⟩
    rw [if_pos hb1]
    refine hc B3 F σ H3 I3 _ fun v4 H4 B4 s4 I4 p4 => ?_
    refine hq' B4 F σ H4 ρ v2 v4 I4 (dp_mono (s3.trans s4) p2) p4 _ fun v5 H5 B5 s5 I5 p5 => ?_
    cases p5
    refine ⟨b2, rfl, ?_⟩
    have e2 : b2 = bb := by rw [he, hb1]; rfl
    rw [e2]
    exact q H5 B5 ((((s1.trans s2).trans s3).trans s4).trans s5) I5
  · have e1 : b1 = false := by simpa using hb1
    refine dt_of (pt_chain hr (r' := fun _ _ _ _ => False) (fun _ _ _ _ _ _ _ _ _ _ _ _ z => z.elim) pe_sem pe_sem pe_sem hm) fun B F σ H I Q q => ?_
    refine ha B F σ H I _ fun v1 H1 B1 s1 I1 p1 => hb B1 F σ H1 I1 _ fun v2 H2 B2 s2 I2 p2 => ?_
    refine hq B2 F σ H2 ρ v1 v2 I2 (dp_mono s2 p1) p2 _ fun v H3 B3 s3 I3 p3 => ?_
    cases p3
    refine ⟨b1, rfl, ?_⟩
    rw [if_neg hb1]
    have e2 : bb = false := by rw [he, e1]; rfl
    rw [e2] at q
    exact ⟨false, rfl, q H3 B3 ((s1.trans s2).trans s3) I3⟩
/-- operators whose answer is a plain value -/
theorem op2_val {f : Value → Value → Sem Value} {r : R2} {v1 v2 v : V} (hr : OpR X f r) (i1 : ∀ B u, Dq M.K B u d1 → u = v1) (i2 : ∀ B u, Dq M.K B u d2 → u = v2) (hd : ∀ B, Dq M.K B v d) (h : ∀ H Q, Q v H → r v1 v2 H Q) : Op2 M X f d1 d2 d := by
  refine ⟨r, hr, fun B F σ H ρ u1 u2 I p1 p2 Q q => ?_⟩
  rw [i1 B u1 p1, i2 B u2 p2]
  exact h H Q (q _ _ _ (Same.refl B) I (hd B))
theorem inv_int {K : PySem.W.Frag} {n : Int} : ∀ B u, Dq K B u (.int n) → u = .int n := fun _ _ h => by cases h; rfl
theorem inv_str {K : PySem.W.Frag} {n : Str} : ∀ B u, Dq K B u (.str n) → u = .str n := fun _ _ h => by cases h; rfl
theorem inv_bl {K : PySem.W.Frag} {n : Bool} : ∀ B u, Dq K B u (.bool n) → u = .bl n := fun _ _ h => by cases h; rfl
theorem inv_non {K : PySem.W.Frag} : ∀ B u, Dq K B u .none → u = .non := fun _ _ h => by cases h; rfl
variable {m n : Int}
theorem o_add : Op2 M X (binaryOp .Add) (.int m) (.int n) (.int (m + n)) := op2_val op_add inv_int inv_int (fun B => .int (m + n)) fun H Q q => ⟨m, n, rfl, rfl, q⟩
theorem o_sub : Op2 M X (binaryOp .Sub) (.int m) (.int n) (.int (m - n)) := op2_val op_sub inv_int inv_int (fun B => .int (m - n)) fun H Q q => ⟨m, n, rfl, rfl, q⟩
theorem o_mul (h : CMul m n) : Op2 M X (binaryOp .Mult) (.int m) (.int n) (.int (m * n)) := op2_val op_mul inv_int inv_int (fun B => .int (m * n)) fun H Q q => ⟨m, n, rfl, rfl, h, q⟩
theorem o_mulW (h : CMulW m n) : Op2 M X (binaryOp .Mult) (.int m) (.int n) (.int (m * n)) := op2_val op_mulW inv_int inv_int (fun B => .int (m * n)) fun H Q q => ⟨m, n, rfl, rfl, h, q⟩
theorem o_fdiv (h : CDiv m n) : Op2 M X (binaryOp .FloorDiv) (.int m) (.int n) (.int (m / n)) := op2_val op_fdiv inv_int inv_int (fun B => .int (m / n)) fun H Q q => ⟨m, n, rfl, rfl, h, q⟩
theorem o_fdivW (h : CDivW m n) : Op2 M X (binaryOp .FloorDiv) (.int m) (.int n) (.int (m / n)) := op2_val op_fdivW inv_int inv_int (fun B => .int (m / n)) fun H Q q => ⟨m, n, rfl, rfl, h, q⟩
theorem o_mod (h : 0 < n) : Op2 M X (binaryOp .Mod) (.int m) (.int n) (.int (m % n)) := op2_val op_mod inv_int inv_int (fun B => .int (m % n)) fun H Q q => ⟨m, n, rfl, rfl, h, q⟩
theorem o_shl (h : CPow m n) : Op2 M X (binaryOp .LShift) (.int m) (.int n) (.int (m * 2 ^ n.toNat)) := op2_val op_shl inv_int inv_int (fun B => .int (m * 2 ^ n.toNat)) fun H Q q => ⟨m, n, rfl, rfl, h, q⟩
theorem o_lt : Op2 M X (compareOp .Lt) (.int m) (.int n) (.bool (decide (m < n))) := op2_val op_lt inv_int inv_int (fun B => .bl _) fun H Q q => ⟨m, n, rfl, rfl, q⟩
theorem o_le : Op2 M X (compareOp .LtE) (.int m) (.int n) (.bool (decide (m ≤ n))) := op2_val op_le inv_int inv_int (fun B => .bl _) fun H Q q => ⟨m, n, rfl, rfl, q⟩
theorem o_gt : Op2 M X (compareOp .Gt) (.int m) (.int n) (.bool (decide (n < m))) := op2_val op_gt inv_int inv_int (fun B => .bl _) fun H Q q => ⟨m, n, rfl, rfl, q⟩
theorem o_ge : Op2 M X (compareOp .GtE) (.int m) (.int n) (.bool (decide (n ≤ m))) := op2_val op_ge inv_int inv_int (fun B => .bl _) fun H Q q => ⟨m, n, rfl, rfl, q⟩
theorem o_eqI : Op2 M X (compareOp .Eq) (.int m) (.int n) (.bool (decide (m = n))) := op2_val op_eq inv_int inv_int (fun B => .bl _) fun H Q q => ⟨rfl, by
  have e : decide (V.int m = V.int n) = decide (m = n) := by simp
  rw [e]; exact q⟩
theorem o_neI : Op2 M X (compareOp .NotEq) (.int m) (.int n) (.bool (!decide (m = n))) := op2_val op_ne inv_int inv_int (fun B => .bl _) fun H Q q => ⟨rfl, by
  have e : decide (V.int m = V.int n) = decide (m = n) := by simp
  rw [e]; exact q⟩
theorem o_eqS {y z : Str} : Op2 M X (compareOp .Eq) (.str y) (.str z) (.bool (decide (y = z))) := op2_val op_eq inv_str inv_str (fun B => .bl _) fun H Q q => ⟨rfl, by
  have e : decide (V.str y = V.str z) = decide (y = z) := by simp
  rw [e]; exact q⟩
theorem o_neS {y z : Str} : Op2 M X (compareOp .NotEq) (.str y) (.str z) (.bool (!decide (y = z))) := op2_val op_ne inv_str inv_str (fun B => .bl _) fun H Q q => ⟨rfl, by
  have e : decide (V.str y = V.str z) = decide (y = z) := by simp
  rw [e]; exact q⟩
/-- == of any data -/
theorem o_eqD (c : Cv M N sc X) (h1 : SeqAt.shaped d1 = true) (h2 : SeqAt.shaped d2 = true) : Op2 M X (compareOp .Eq) d1 d2 (.bool (PyData.eqv d1 d2)) :=
  ⟨_, op_eqD (by have := c.un; omega), fun B F σ H ρ u1 u2 I p1 p2 Q q => ⟨d1, d2, by rw [c.eK]; exact dq_dp (dp_mono I.bh p1) (SeqAt.canLay_of_shaped h1), by rw [c.eK]; exact dq_dp (dp_mono I.bh p2) (SeqAt.canLay_of_shaped h2), h1, h2, q _ _ _ (Same.refl B) I (.bl _)⟩⟩
theorem o_neD (c : Cv M N sc X) (h1 : SeqAt.shaped d1 = true) (h2 : SeqAt.shaped d2 = true) : Op2 M X (compareOp .NotEq) d1 d2 (.bool (!PyData.eqv d1 d2)) :=
  ⟨_, op_neD (by have := c.un; omega), fun B F σ H ρ u1 u2 I p1 p2 Q q => ⟨d1, d2, by rw [c.eK]; exact dq_dp (dp_mono I.bh p1) (SeqAt.canLay_of_shaped h1), by rw [c.eK]; exact dq_dp (dp_mono I.bh p2) (SeqAt.canLay_of_shaped h2), h1, h2, q _ _ _ (Same.refl B) I (.bl _)⟩⟩
def isNone : PyData → Bool
  | .none => true
  | _ => false
theorem dec_non {K : PySem.W.Frag} {B : Hp} {v : V} (p : Dq K B v d) : decide (v = V.non) = isNone d := by cases p <;> simp [isNone]
theorem o_isN : Op2 M X (compareOp .Is) d .none (.bool (isNone d)) := ⟨_, op_isN, fun B F σ H ρ u1 u2 I p1 p2 Q q => by
  cases p2
  refine ⟨rfl, ?_⟩
  rw [dec_non p1]
  exact q _ _ _ (Same.refl B) I (.bl _)⟩
theorem o_notN : Op2 M X (compareOp .IsNot) d .none (.bool (!isNone d)) := ⟨_, op_notN, fun B F σ H ρ u1 u2 I p1 p2 Q q => by
  cases p2
  refine ⟨rfl, ?_⟩
  rw [dec_non p1]
  exact q _ _ _ (Same.refl B) I (.bl _)⟩

/-! ### truth, and, or, not -/
def tru : PyData → Bool
  | .none => false
  | .bool b => b
  | .int i => i != 0
  | .str s => (s.length : Int) != 0
  | .list xs => !xs.isEmpty
  | .tuple xs => !xs.isEmpty
  | .dict kvs => !kvs.isEmpty
def truOk : PyData → Prop
  | .str s => s.length ≤ sizeLine
  | .dict _ => False
  | _ => True
theorem tru_of {K : PySem.W.Frag} {B H : Hp} {v : V} (e : Same B H) (p : Dq K B v d) (h : truOk d) : TruV K v H (tru d) := by
  cases p with
  | non => rfl
  | bl b => rfl
  | int i => rfl
  | str y => exact ⟨h, rfl⟩
  | lst s al =>
    refine Or.inl ⟨_, SqL.of (e _ _ s), ?_⟩
    have := dpa_len al
    show (!List.isEmpty _) = _
    rename_i xs ds
    cases xs <;> cases ds <;> first | rfl | simp at this
  | tup s al =>
    refine Or.inr (Or.inl ⟨_, Evl.ex_t e s, ?_⟩)
    have := dpa_len al
    show (!List.isEmpty _) = _
    rename_i xs ds
    cases xs <;> cases ds <;> first | rfl | simp at this
  | scr q s => exact h.elim
  | obj q s t => exact h.elim
  | dft q s z t => exact h.elim
  | dct q s z t => exact h.elim
  | fdk q s z t => exact h.elim
theorem dt_tru (c : Cv M N sc X) (h : DE M X e ρ d) (ho : truOk d) (he : ∀ whole, isTrue e X.env whole = (do let v ← whole; standAt e.pos; holding [v] (truthy v)) := by intro _; rfl) : DT M X e ρ (tru d) :=
  dt_of (pt_truth pe_sem he) fun B F σ H I Q q => h B F σ H I _ fun v H' B' s I' p => ⟨tru d, by rw [c.eK]; exact tru_of I'.bh p ho, q H' B' s I'⟩
theorem dt_val (h : DE M X e ρ (.bool bb)) (he : ∀ whole, isTrue e X.env whole = (do let v ← whole; standAt e.pos; holding [v] (truthy v)) := by intro _; rfl) : DT M X e ρ bb :=
  dt_of (pt_val pe_sem he) fun B F σ H I Q q => h B F σ H I _ fun v H' B' s I' p => by
    cases p
    exact ⟨bb, rfl, q H' B' s I'⟩
theorem dt_not (h : DT M X a ρ b1) : DT M X (.UnaryOp .Not a pos) ρ (!b1) := dt_of (pt_not pt_sem) fun B F σ H I Q q => h B F σ H I _ fun H' B' s I' => q H' B' s I'
theorem dt_bool (h : DW M X e ρ bb) : DT M X e ρ bb := fun B F σ H I Q q pins s iv => h B F σ H I Q q _ pins s iv
theorem dw_and1 (h : DT M X a ρ b1) : DW M X (.BoolOp .And [a] pos) ρ b1 := dw_of (pw_and1 pt_sem) h
theorem dw_or1 (h : DT M X a ρ b1) : DW M X (.BoolOp .Or [a] pos) ρ b1 := dw_of (pw_or1 pt_sem) h
theorem dw_and (h : DT M X a ρ b1) (h2 : b1 = true → DW M X (.BoolOp .And (b :: es) pos) ρ b2) : DW M X (.BoolOp .And (a :: b :: es) pos) ρ (b1 && b2) := dw_of (pw_and pt_sem pw_sem) fun B F σ H I Q q => h B F σ H I _ fun H' B' s I' => by
  cases b1 with
  | true =>
    rw [if_pos rfl]
    exact h2 rfl B' F σ H' I' Q fun H2 B2 s2 I2 => q H2 B2 (s.trans s2) I2
  | false =>
    rw [if_neg Bool.false_ne_true]
    exact q H' B' s I'
theorem dw_or (h : DT M X a ρ b1) (h2 : b1 = false → DW M X (.BoolOp .Or (b :: es) pos) ρ b2) : DW M X (.BoolOp .Or (a :: b :: es) pos) ρ (b1 || b2) := dw_of (pw_or pt_sem pw_sem) fun B F σ H I Q q => h B F σ H I _ fun H' B' s I' => by
  cases b1 with
  | false =>
    rw [if_neg Bool.false_ne_true]
    exact h2 rfl B' F σ H' I' Q fun H2 B2 s2 I2 => q H2 B2 (s.trans s2) I2
  | true =>
    rw [if_pos rfl]
    exact q H' B' s I'
/-- as values, of bools -/
theorem de_one {op} (h : DE M X a ρ d) : DE M X (.BoolOp op [a] pos) ρ d := de_of (pe_one pe_sem) h
theorem de_and (h : DE M X a ρ (.bool b1)) (h2 : b1 = true → DE M X (.BoolOp .And (b :: es) pos) ρ (.bool b2)) : DE M X (.BoolOp .And (a :: b :: es) pos) ρ (.bool (b1 && b2)) := de_of (pe_and pe_sem pe_sem) fun B F σ H I Q q => h B F σ H I _ fun v H' B' s I' p => by
  cases p
  refine ⟨b1, rfl, ?_⟩
  cases b1 with
  | true =>
    rw [if_pos rfl]
    exact h2 rfl B' F σ H' I' Q fun v H2 B2 s2 I2 p2 => q v H2 B2 (s.trans s2) I2 p2
  | false =>
    rw [if_neg Bool.false_ne_true]
    exact q _ H' B' s I' (.bl false)
theorem de_or (h : DE M X a ρ (.bool b1)) (h2 : b1 = false → DE M X (.BoolOp .Or (b :: es) pos) ρ (.bool b2)) : DE M X (.BoolOp .Or (a :: b :: es) pos) ρ (.bool (b1 || b2)) := de_of (pe_or pe_sem pe_sem) fun B F σ H I Q q => h B F σ H I _ fun v H' B' s I' p => by
  cases p
  refine ⟨b1, rfl, ?_⟩
  cases b1 with
  | false =>
    rw [if_neg Bool.false_ne_true]
    exact h2 rfl B' F σ H' I' Q fun v H2 B2 s2 I2 p2 => q v H2 B2 (s.trans s2) I2 p2
  | true =>
    rw [if_pos rfl]
    exact q _ H' B' s I' (.bl true)
theorem de_not (h : DE M X a ρ (.bool b1)) : DE M X (.UnaryOp .Not a pos) ρ (.bool (!b1)) := de_of (pe_not pe_sem) fun B F σ H I Q q => h B F σ H I _ fun v H' B' s I' p => by
  cases p
  exact ⟨b1, rfl, q _ H' B' s I' (.bl _)⟩
theorem de_neg (h : DE M X a ρ (.int m)) : DE M X (.UnaryOp .USub a pos) ρ (.int (-m)) := de_of (pe_un un_neg pe_sem) fun B F σ H I Q q => h B F σ H I _ fun v H' B' s I' p => by
  cases p
  exact ⟨m, rfl, q _ H' B' s I' (.int _)⟩
theorem de_if (h : DT M X e ρ bb) (h1 : bb = true → DE M X a ρ d) (h2 : bb = false → DE M X b ρ d) : DE M X (.IfExp e a b pos) ρ d := de_of (pe_ifExp pt_sem pe_sem pe_sem) fun B F σ H I Q q => h B F σ H I _ fun H' B' s I' => by
  cases bb with
  | true =>
    rw [if_pos rfl]
    exact h1 rfl B' F σ H' I' Q fun v H2 B2 s2 I2 p => q v H2 B2 (s.trans s2) I2 p
  | false =>
    rw [if_neg Bool.false_ne_true]
    exact h2 rfl B' F σ H' I' Q fun v H2 B2 s2 I2 p => q v H2 B2 (s.trans s2) I2 p

/-! ### arguments, displays -/
theorem da_nil : DA M X [] ρ [] := da_of pa_nil fun B F σ H I Q q => q [] H B (Same.refl B) I .nil
theorem da_cons (h : DE M X e ρ d) (hr : DA M X es ρ ds) (hs : starEach (e :: es) X.env = (false, eval e X.env) :: starEach es X.env := by rfl) : DA M X (e :: es) ρ (d :: ds) :=
  da_of (pa_cons pe_sem pa_sem hs) fun B F σ H I Q q => h B F σ H I _ fun v H1 B1 s1 I1 p1 => hr B1 F σ H1 I1 _ fun vs H2 B2 s2 I2 p2 => q _ H2 B2 (s1.trans s2) I2 (.cons (dp_mono s2 p1) p2)
theorem de_tup {x1} (h : DA M X es ρ ds) (hl : ds.length ≤ 100000) : DE M X (.Tuple es x1 pos) ρ (.tuple ds) := de_of (pe_tup pa_sem) fun B F σ H I Q q => h B F σ H I _ fun vs H' B' s I' p =>
  ⟨by rw [dpa_len p]; exact Evl.sz_of hl, fun a ha => by
    obtain ⟨s2, I2⟩ := I'.new (o := .tup vs) ha
    exact q _ _ _ (s.trans s2) I2 (.tup (.inl (.inl upd_same)) (dpa_mono s2 p))⟩
theorem dn_lst (h : DA M X es ρ ds) (hl : ds.length ≤ 100000) : DN M X (.List es pos) ρ ds := dn_of (pe_lst pa_sem) fun B F σ H I Q q => h B F σ H I _ fun vs H' B' s I' p =>
  ⟨by rw [dpa_len p]; exact Evl.sz_of hl, fun a ha => q a vs _ B' s (I'.fh.free ha) (I'.lay ha) p⟩
theorem de_lst (h : DA M X es ρ ds) (hl : ds.length ≤ 100000) : DE M X (.List es pos) ρ (.list ds) := (dn_lst h hl).de

/-! ### calls of built-ins -/
def Cl (M : Md) (X : Cx) (f : Value) (ds : List PyData) (d : PyData) : Prop := ∃ r, CallR X f r ∧ ∀ B F σ H ρ vs, EnvB M.K B F H σ ρ → DqAll M.K B vs ds → ∀ Q : VK, (∀ v H' B', Same B B' → EnvB M.K B' F H' σ ρ → Dq M.K B' v d → Q v H') → r vs H Q
theorem de_callB {id : String} {q : Pos} (c : Cv M N sc X) (hm : M.mg x = none) (hv : bootBuiltins x = some (.builtin id)) (ha : DA M X (e :: es) ρ ds) (hc : Cl M X (.builtin id) ds d)
    (he : starEach (e :: es) X.env = (false, eval e X.env) :: starEach es X.env := by rfl) (hpl : (backTo pos (starEach es X.env)).any (·.1) = false := by rfl) (hg : (glB sc x && okN x) = true := by decide +kernel) : DE M X (.Call (.Name x q) (e :: es) [] pos) ρ d := by
  rw [Bool.and_eq_true] at hg
  obtain ⟨r, hr, hq⟩ := hc
  exact de_of (pe_callB hr (c.gl hg.1) (by rw [c.eg]; exact hm) hv pa_sem (okN3 hg.2) (okN1 hg.2) he hpl) fun B F σ H I Q q => ha B F σ H I _ fun vs H' B' s I' p =>
    hq B' F σ H' ρ vs I' p Q fun v H2 B2 s2 I2 p2 => q v H2 B2 (s.trans s2) I2 p2
theorem de_callTy {T : String} {q : Pos} (c : Cv M N sc X) (hm : M.mg x = none) (hv : bootBuiltins x = some (.type T)) (ha : DA M X (e :: es) ρ ds) (hc : Cl M X (.type T) ds d)
    (he : starEach (e :: es) X.env = (false, eval e X.env) :: starEach es X.env := by rfl) (hpl : (backTo pos (starEach es X.env)).any (·.1) = false := by rfl) (hg : (glB sc x && okN x) = true := by decide +kernel) : DE M X (.Call (.Name x q) (e :: es) [] pos) ρ d := by
  rw [Bool.and_eq_true] at hg
  obtain ⟨r, hr, hq⟩ := hc
  exact de_of (pe_callTy hr (c.gl hg.1) (by rw [c.eg]; exact hm) hv pa_sem (okN3 hg.2) (okN1 hg.2) he hpl) fun B F σ H I Q q => ha B F σ H I _ fun vs H' B' s I' p =>
    hq B' F σ H' ρ vs I' p Q fun v H2 B2 s2 I2 p2 => q v H2 B2 (s.trans s2) I2 p2
theorem inv_all1 {K : PySem.W.Frag} {B : Hp} {vs : List V} (h : DqAll K B vs [d]) : ∃ v, vs = [v] ∧ Dq K B v d := by
  cases h with
  | cons h t => cases t; exact ⟨_, rfl, h⟩
theorem inv_all2 {K : PySem.W.Frag} {B : Hp} {vs : List V} (h : DqAll K B vs [d1, d2]) : ∃ v w, vs = [v, w] ∧ Dq K B v d1 ∧ Dq K B w d2 := by
  cases h with
  | cons h t =>
    cases t with
    | cons h2 t => cases t; exact ⟨_, _, rfl, h, h2⟩
theorem cl_abs : Cl M X (.builtin "abs") [.int m] (.int (if m < 0 then -m else m)) := ⟨_, call_abs, fun B F σ H ρ vs I p Q q => by
  obtain ⟨v, rfl, p1⟩ := inv_all1 p
  cases p1
  exact ⟨m, rfl, q _ _ _ (Same.refl B) I (.int _)⟩⟩
theorem cl_max2 (hc : X.calm = true) : Cl M X (.builtin "max") [.int m, .int n] (.int (if n > m then n else m)) := ⟨_, call_max2 hc, fun B F σ H ρ vs I p Q q => by
  obtain ⟨v, w, rfl, p1, p2⟩ := inv_all2 p
  cases p1; cases p2
  exact ⟨m, n, rfl, q _ _ _ (Same.refl B) I (.int _)⟩⟩
theorem cl_min2 (hc : X.calm = true) : Cl M X (.builtin "min") [.int m, .int n] (.int (if n < m then n else m)) := ⟨_, call_min2 hc, fun B F σ H ρ vs I p Q q => by
  obtain ⟨v, w, rfl, p1, p2⟩ := inv_all2 p
  cases p1; cases p2
  exact ⟨m, n, rfl, q _ _ _ (Same.refl B) I (.int _)⟩⟩
theorem cl_len_str {y : Str} (h : y.length ≤ sizeLine) : Cl M X (.builtin "len") [.str y] (.int y.length) := ⟨_, call_len_str, fun B F σ H ρ vs I p Q q => by
  obtain ⟨v, rfl, p1⟩ := inv_all1 p
  cases p1
  exact ⟨y, rfl, h, q _ _ _ (Same.refl B) I (.int _)⟩⟩
theorem cl_len_lst (c : Cv M N sc X) : Cl M X (.builtin "len") [.list ds] (.int ds.length) := ⟨_, call_len_seq, fun B F σ H ρ vs I p Q q => by
  obtain ⟨v, rfl, p1⟩ := inv_all1 p
  cases p1 with
  | lst s al => exact ⟨_, _, rfl, .inl (SqL.of (I.bh _ _ s)), by rw [dpa_len al]; exact q _ _ _ (Same.refl B) I (.int _)⟩⟩
theorem cl_len_tup (c : Cv M N sc X) : Cl M X (.builtin "len") [.tuple ds] (.int ds.length) := ⟨_, call_len_seq, fun B F σ H ρ vs I p Q q => by
  obtain ⟨v, rfl, p1⟩ := inv_all1 p
  cases p1 with
  | tup s al => exact ⟨_, _, rfl, .inr (by rw [c.eK]; exact Evl.ex_t I.bh s), by rw [dpa_len al]; exact q _ _ _ (Same.refl B) I (.int _)⟩⟩
theorem cl_len_scr {ns : List Int} (c : Cv M N sc X) : Cl M X (.builtin "len") [scrD ns] (.int ns.length) := ⟨_, call_len_seq, fun B F σ H ρ vs I p Q q => by
  obtain ⟨v, rfl, p1⟩ := inv_all1 p
  cases p1 with
  | scr e s =>
    rename_i a ns'
    have e2 : ns.length = ns'.length := by have := congrArg List.length e; rw [List.length_map, List.length_map] at this; exact this
    refine ⟨_, _, rfl, .inl (by rw [c.eK]; exact I.bh.seq s), ?_⟩
    rw [List.length_map, ← e2]
    exact q _ _ _ (Same.refl B) I (.int _)
  | obj e s t => exact (obK_scr e).elim
  | dft e s z t => exact (dfK_scr e).elim
  | dct e s z t => exact (dtK_scr e).elim
  | fdk e s z t => exact (lkK_scr e).elim⟩
theorem cl_tuple_lst (c : Cv M N sc X) : Cl M X (.type "tuple") [.list ds] (.tuple ds) := ⟨_, call_tuple_of, fun B F σ H ρ vs I p Q q => by
  obtain ⟨v, rfl, p1⟩ := inv_all1 p
  cases p1 with
  | lst s al => exact ⟨_, _, rfl, .inl ⟨SqL.of (I.bh _ _ s), fun a ha => by
      obtain ⟨s2, I2⟩ := I.new (o := .tup _) ha
      exact q _ _ _ s2 I2 (.tup (.inl (.inl upd_same)) (dpa_mono s2 al))⟩⟩⟩
theorem cl_tuple_tup (c : Cv M N sc X) : Cl M X (.type "tuple") [.tuple ds] (.tuple ds) := ⟨_, call_tuple_of, fun B F σ H ρ vs I p Q q => by
  obtain ⟨v, rfl, p1⟩ := inv_all1 p
  cases p1 with
  | tup s al => exact ⟨_, _, rfl, .inr ⟨by rw [c.eK]; exact Evl.ex_t I.bh s, q _ _ _ (Same.refl B) I (.tup s al)⟩⟩⟩
theorem cl_list_lst (c : Cv M N sc X) : Cl M X (.type "list") [.list ds] (.list ds) := ⟨_, call_list_of, fun B F σ H ρ vs I p Q q => by
  obtain ⟨v, rfl, p1⟩ := inv_all1 p
  cases p1 with
  | lst s al => exact ⟨_, _, rfl, .inl (SqL.of (I.bh _ _ s)), fun a ha => by
      obtain ⟨s2, I2⟩ := I.new (o := .lst _) ha
      exact q _ _ _ s2 I2 (.lst upd_same (dpa_mono s2 al))⟩⟩
theorem cl_list_tup (c : Cv M N sc X) : Cl M X (.type "list") [.tuple ds] (.list ds) := ⟨_, call_list_of, fun B F σ H ρ vs I p Q q => by
  obtain ⟨v, rfl, p1⟩ := inv_all1 p
  cases p1 with
  | tup s al => exact ⟨_, _, rfl, .inr (by rw [c.eK]; exact Evl.ex_t I.bh s), fun a ha => by
      obtain ⟨s2, I2⟩ := I.new (o := .lst _) ha
      exact q _ _ _ s2 I2 (.lst upd_same (dpa_mono s2 al))⟩⟩

/-! ### subscripts -/
def Ix (M : Md) (X : Cx) (d1 d2 d : PyData) : Prop := ∃ r : R2, IxR X r ∧ ∀ B F σ H ρ v1 v2, EnvB M.K B F H σ ρ → Dq M.K B v1 d1 → Dq M.K B v2 d2 → ∀ Q : VK, (∀ v H' B', Same B B' → EnvB M.K B' F H' σ ρ → Dq M.K B' v d → Q v H') → r v1 v2 H Q
theorem de_ix (ha : DE M X a ρ d1) (hb : DE M X b ρ d2) (ho : Ix M X d1 d2 d) (hs : PlainIx b := by intro _ _; rfl) : DE M X (.Subscript a b pos) ρ d := by
  obtain ⟨r, hr, hq⟩ := ho
  refine de_of (pe_ix hr pe_sem pe_sem hs) fun B F σ H I Q q => run2 (R := fun v1 v2 H' => r v1 v2 H' Q) ha hb I fun v1 v2 H' B' s I' p1 p2 => ?_
  exact hq B' F σ H' ρ v1 v2 I' p1 p2 Q fun v H2 B2 s2 I2 p3 => q v H2 B2 (s.trans s2) I2 p3
theorem atI_dp {K : PySem.W.Frag} {B : Hp} {vs : List V} (al : DqAll K B vs ds) (h : atI ds n = some d) : ∃ v, atI vs n = some v ∧ Dq K B v d := by
  unfold atI at h ⊢
  rw [dpa_len al]
  cases hj : ixN ds.length n with
  | none => rw [hj] at h; cases h
  | some j =>
    rw [hj] at h
    exact dpa_getd al j d h
theorem ix_t (c : Cv M N sc X) (h : atI ds n = some d) : Ix M X (.tuple ds) (.int n) d := ⟨_, ix_tup, fun B F σ H ρ u1 u2 I p1 p2 Q q => by
  cases p2
  cases p1 with
  | tup s al =>
    obtain ⟨v, hv, hd⟩ := atI_dp al h
    exact ⟨_, _, n, v, rfl, rfl, by rw [c.eK]; exact Evl.ex_t I.bh s, hv, q _ _ _ (Same.refl B) I hd⟩⟩
theorem ix_l (c : Cv M N sc X) (h : atI ds n = some d) : Ix M X (.list ds) (.int n) d := ⟨_, ix_list, fun B F σ H ρ u1 u2 I p1 p2 Q q => by
  cases p2
  cases p1 with
  | lst s al =>
    obtain ⟨v, hv, hd⟩ := atI_dp al h
    exact ⟨_, _, n, v, rfl, rfl, SqL.of (I.bh _ _ s), hv, q _ _ _ (Same.refl B) I hd⟩⟩
theorem scr_inj : ∀ {ns ms : List Int}, (ns.map fun n => ((PyData.int n, PyData.none) : PyData × PyData)) = (ms.map fun n => (PyData.int n, PyData.none)) → ns = ms
  | [], [], _ => rfl
  | [], _ :: _, h => by cases h
  | _ :: _, [], h => by cases h
  | a :: r, b :: r', h => by
    rw [List.map_cons, List.map_cons] at h
    injection h with h1 h2
    injection h1 with h1 _
    injection h1 with h1
    rw [h1, scr_inj h2]
theorem ix_scr {ns : List Int} {z : Int} (c : Cv M N sc X) (h : atI ns n = some z) : Ix M X (scrD ns) (.int n) (.int z) := ⟨_, ix_list, fun B F σ H ρ u1 u2 I p1 p2 Q q => by
  cases p2
  cases p1 with
  | scr e s =>
    have e2 := scr_inj e
    subst e2
    refine ⟨_, _, n, .int z, rfl, rfl, by rw [c.eK]; exact I.bh.seq s, ?_, q _ _ _ (Same.refl B) I (.int z)⟩
    unfold atI at h ⊢
    rw [List.length_map]
    cases hj : ixN ns.length n with
    | none => rw [hj] at h; cases h
    | some j =>
      rw [hj] at h
      show (ns.map V.int)[j]? = some (.int z)
      rw [List.getElem?_map, show ns[j]? = some z from h]
      rfl
  | obj e s t => exact (obK_scr e).elim
  | dft e s z t => exact (dfK_scr e).elim
  | dct e s z t => exact (dtK_scr e).elim
  | fdk e s z t => exact (lkK_scr e).elim⟩
end
end Dl

namespace Dl
open PySem PySem.Spec PyProof.Rows L2

theorem le_eq {x y : Sl} {a b : List Sl} (e : x = y) (h : Le a b) : Le (x :: a) (y :: b) := e ▸ le_same h
/-! ### places -/
inductive Get {α : Type} : Nat → α → List α → Prop
  | z {s : α} {r : List α} : Get 0 s (s :: r)
  | s {i : Nat} {s x : α} {r : List α} (h : Get i s r) : Get (i + 1) s (x :: r)
theorem Get.at {α : Type} {i : Nat} {s : α} {r : List α} (h : Get i s r) : r[i]? = some s := by
  induction h with
  | z => rfl
  | s h ih => simpa using ih
inductive SetAt : Nat → Sl → List Sl → List Sl → Prop
  | z {s x : Sl} {r : List Sl} : SetAt 0 s (x :: r) (s :: r)
  | s {i : Nat} {s x : Sl} {r r' : List Sl} (h : SetAt i s r r') : SetAt (i + 1) s (x :: r) (x :: r')
theorem SetAt.eq {i : Nat} {s : Sl} {r r' : List Sl} (h : SetAt i s r r') : r.set i s = r' ∧ i < r.length := by
  induction h with
  | z => exact ⟨rfl, by simp⟩
  | s h ih => exact ⟨by rw [List.set_cons_succ, ih.1], by rw [List.length_cons]; have := ih.2; omega⟩
section
variable {α : Type} {s x0 x1 x2 x3 x4 x5 x6 x7 x8 x9 xa xb xc xd xe xf xg : α} {r : List α}
theorem G0 : Get 0 s (s :: r) := .z
theorem G1 : Get 1 s (x0 :: s :: r) := .s G0
theorem G2 : Get 2 s (x0 :: x1 :: s :: r) := .s G1
theorem G3 : Get 3 s (x0 :: x1 :: x2 :: s :: r) := .s G2
theorem G4 : Get 4 s (x0 :: x1 :: x2 :: x3 :: s :: r) := .s G3
theorem G5 : Get 5 s (x0 :: x1 :: x2 :: x3 :: x4 :: s :: r) := .s G4
theorem G6 : Get 6 s (x0 :: x1 :: x2 :: x3 :: x4 :: x5 :: s :: r) := .s G5
theorem G7 : Get 7 s (x0 :: x1 :: x2 :: x3 :: x4 :: x5 :: x6 :: s :: r) := .s G6
theorem G8 : Get 8 s (x0 :: x1 :: x2 :: x3 :: x4 :: x5 :: x6 :: x7 :: s :: r) := .s G7
theorem G9 : Get 9 s (x0 :: x1 :: x2 :: x3 :: x4 :: x5 :: x6 :: x7 :: x8 :: s :: r) := .s G8
theorem G10 : Get 10 s (x0 :: x1 :: x2 :: x3 :: x4 :: x5 :: x6 :: x7 :: x8 :: x9 :: s :: r) := .s G9
theorem G11 : Get 11 s (x0 :: x1 :: x2 :: x3 :: x4 :: x5 :: x6 :: x7 :: x8 :: x9 :: xa :: s :: r) := .s G10
theorem G12 : Get 12 s (x0 :: x1 :: x2 :: x3 :: x4 :: x5 :: x6 :: x7 :: x8 :: x9 :: xa :: xb :: s :: r) := .s G11
theorem G13 : Get 13 s (x0 :: x1 :: x2 :: x3 :: x4 :: x5 :: x6 :: x7 :: x8 :: x9 :: xa :: xb :: xc :: s :: r) := .s G12
theorem G14 : Get 14 s (x0 :: x1 :: x2 :: x3 :: x4 :: x5 :: x6 :: x7 :: x8 :: x9 :: xa :: xb :: xc :: xd :: s :: r) := .s G13
theorem G15 : Get 15 s (x0 :: x1 :: x2 :: x3 :: x4 :: x5 :: x6 :: x7 :: x8 :: x9 :: xa :: xb :: xc :: xd :: xe :: s :: r) := .s G14
theorem G16 : Get 16 s (x0 :: x1 :: x2 :: x3 :: x4 :: x5 :: x6 :: x7 :: x8 :: x9 :: xa :: xb :: xc :: xd :: xe :: xf :: s :: r) := .s G15
theorem G17 : Get 17 s (x0 :: x1 :: x2 :: x3 :: x4 :: x5 :: x6 :: x7 :: x8 :: x9 :: xa :: xb :: xc :: xd :: xe :: xf :: xg :: s :: r) := .s G16
end
section
variable {s x x0 x1 x2 x3 x4 x5 x6 x7 x8 x9 xa xb xc xd xe xf xg : Sl} {r : List Sl}
theorem T0 : SetAt 0 s (x :: r) (s :: r) := .z
theorem T1 : SetAt 1 s (x0 :: x :: r) (x0 :: s :: r) := .s T0
theorem T2 : SetAt 2 s (x0 :: x1 :: x :: r) (x0 :: x1 :: s :: r) := .s T1
theorem T3 : SetAt 3 s (x0 :: x1 :: x2 :: x :: r) (x0 :: x1 :: x2 :: s :: r) := .s T2
theorem T4 : SetAt 4 s (x0 :: x1 :: x2 :: x3 :: x :: r) (x0 :: x1 :: x2 :: x3 :: s :: r) := .s T3
theorem T5 : SetAt 5 s (x0 :: x1 :: x2 :: x3 :: x4 :: x :: r) (x0 :: x1 :: x2 :: x3 :: x4 :: s :: r) := .s T4
theorem T6 : SetAt 6 s (x0 :: x1 :: x2 :: x3 :: x4 :: x5 :: x :: r) (x0 :: x1 :: x2 :: x3 :: x4 :: x5 :: s :: r) := .s T5
theorem T7 : SetAt 7 s (x0 :: x1 :: x2 :: x3 :: x4 :: x5 :: x6 :: x :: r) (x0 :: x1 :: x2 :: x3 :: x4 :: x5 :: x6 :: s :: r) := .s T6
theorem T8 : SetAt 8 s (x0 :: x1 :: x2 :: x3 :: x4 :: x5 :: x6 :: x7 :: x :: r) (x0 :: x1 :: x2 :: x3 :: x4 :: x5 :: x6 :: x7 :: s :: r) := .s T7
theorem T9 : SetAt 9 s (x0 :: x1 :: x2 :: x3 :: x4 :: x5 :: x6 :: x7 :: x8 :: x :: r) (x0 :: x1 :: x2 :: x3 :: x4 :: x5 :: x6 :: x7 :: x8 :: s :: r) := .s T8
theorem T10 : SetAt 10 s (x0 :: x1 :: x2 :: x3 :: x4 :: x5 :: x6 :: x7 :: x8 :: x9 :: x :: r) (x0 :: x1 :: x2 :: x3 :: x4 :: x5 :: x6 :: x7 :: x8 :: x9 :: s :: r) := .s T9
theorem T11 : SetAt 11 s (x0 :: x1 :: x2 :: x3 :: x4 :: x5 :: x6 :: x7 :: x8 :: x9 :: xa :: x :: r) (x0 :: x1 :: x2 :: x3 :: x4 :: x5 :: x6 :: x7 :: x8 :: x9 :: xa :: s :: r) := .s T10
theorem T12 : SetAt 12 s (x0 :: x1 :: x2 :: x3 :: x4 :: x5 :: x6 :: x7 :: x8 :: x9 :: xa :: xb :: x :: r) (x0 :: x1 :: x2 :: x3 :: x4 :: x5 :: x6 :: x7 :: x8 :: x9 :: xa :: xb :: s :: r) := .s T11
theorem T13 : SetAt 13 s (x0 :: x1 :: x2 :: x3 :: x4 :: x5 :: x6 :: x7 :: x8 :: x9 :: xa :: xb :: xc :: x :: r) (x0 :: x1 :: x2 :: x3 :: x4 :: x5 :: x6 :: x7 :: x8 :: x9 :: xa :: xb :: xc :: s :: r) := .s T12
theorem T14 : SetAt 14 s (x0 :: x1 :: x2 :: x3 :: x4 :: x5 :: x6 :: x7 :: x8 :: x9 :: xa :: xb :: xc :: xd :: x :: r) (x0 :: x1 :: x2 :: x3 :: x4 :: x5 :: x6 :: x7 :: x8 :: x9 :: xa :: xb :: xc :: xd :: s :: r) := .s T13
theorem T15 : SetAt 15 s (x0 :: x1 :: x2 :: x3 :: x4 :: x5 :: x6 :: x7 :: x8 :: x9 :: xa :: xb :: xc :: xd :: xe :: x :: r) (x0 :: x1 :: x2 :: x3 :: x4 :: x5 :: x6 :: x7 :: x8 :: x9 :: xa :: xb :: xc :: xd :: xe :: s :: r) := .s T14
theorem T16 : SetAt 16 s (x0 :: x1 :: x2 :: x3 :: x4 :: x5 :: x6 :: x7 :: x8 :: x9 :: xa :: xb :: xc :: xd :: xe :: xf :: x :: r) (x0 :: x1 :: x2 :: x3 :: x4 :: x5 :: x6 :: x7 :: x8 :: x9 :: xa :: xb :: xc :: xd :: xe :: xf :: s :: r) := .s T15
theorem T17 : SetAt 17 s (x0 :: x1 :: x2 :: x3 :: x4 :: x5 :: x6 :: x7 :: x8 :: x9 :: xa :: xb :: xc :: xd :: xe :: xf :: xg :: x :: r) (x0 :: x1 :: x2 :: x3 :: x4 :: x5 :: x6 :: x7 :: x8 :: x9 :: xa :: xb :: xc :: xd :: xe :: xf :: xg :: s :: r) := .s T16
end
/-! ### targets -/
inductive Pat where
  | nm (j : Nat)
  | tp (js : List Nat)
def gL : List Nat → TGs
  | [] => gNil
  | j :: js => gCons (gName j) (gL js)
def gPat (K : PySem.W.Frag) : Pat → TG
  | .nm j => gName j
  | .tp js => gTup K js.length (gL js)
/-- what a target makes of the slots -/
inductive PSets : List Nat → List PyData → List Sl → List Sl → Prop
  | nil {ρ : List Sl} : PSets [] [] ρ ρ
  | cons {j : Nat} {js : List Nat} {d : PyData} {ds : List PyData} {ρ ρ1 ρ2 : List Sl} (h : SetAt j (.v d) ρ ρ1) (t : PSets js ds ρ1 ρ2) : PSets (j :: js) (d :: ds) ρ ρ2
inductive PSet1 : Pat → PyData → List Sl → List Sl → Prop
  | nm {j : Nat} {d : PyData} {ρ ρ' : List Sl} (h : SetAt j (.v d) ρ ρ') : PSet1 (.nm j) d ρ ρ'
  | tp {js : List Nat} {ds : List PyData} {ρ ρ' : List Sl} (h : PSets js ds ρ ρ') : PSet1 (.tp js) (.tuple ds) ρ ρ'
def Pat.slots : Pat → List Nat
  | .nm j => [j]
  | .tp js => js
section
variable {M : Md} {X : Cx} {W : WX} {N : List Str} {sc : Sco} {k : Nat} {ρ ρ' ρ'' : List Sl} {d d1 d2 d3 : PyData} {ds : List PyData} {e a b c' : Expr} {es : List Expr} {pos p2 p3 p4 p5 : Pos} {x y z : Str} {bb b1 b2 : Bool} {i j l : Nat} {nx : List Sl → Prop} {R : REnds}
theorem wipe_set {σ : L2.St} {o : Option V} : ∀ {vs : List Nat}, j ∈ vs → wipe (σ.set j o) vs = wipe σ vs
  | v :: vs, h => by
    unfold wipe
    by_cases hj : j ∈ vs
    · rw [wipe_set hj]
    · have e : j = v := by
        rcases List.mem_cons.mp h with h | h
        · exact h
        · exact absurd h hj
      subst e
      have q : ∀ (us : List Nat), j ∉ us → (wipe (σ.set j o) us) = (wipe σ us).set j o := fun us => by
        induction us with
        | nil => intro _; rfl
        | cons u us ih =>
          intro hn
          have h1 : j ≠ u := fun z => hn (by rw [z]; exact List.mem_cons_self)
          have h2 : j ∉ us := fun z => hn (List.mem_cons_of_mem _ z)
          unfold wipe
          rw [ih h2, List.set_comm _ _ h1]
      rw [q vs hj, List.set_set]
theorem psets_len {js : List Nat} (h : PSets js ds ρ ρ') : ds.length = js.length := by
  induction h with
  | nil => rfl
  | cons h t ih => rw [List.length_cons, List.length_cons, ih]
theorem gL_run {K : PySem.W.Frag} {B F H : Hp} {js : List Nat} (h : PSets js ds ρ ρ') : ∀ (xs : List V) (σ : L2.St), EnvB K B F H σ ρ → DqAll K B xs ds →
    ∀ Q : L2.St → Hp → Prop, (∀ σ', EnvB K B F H σ' ρ' → (∀ vs, (∀ j ∈ js, j ∈ vs) → wipe σ' vs = wipe σ vs) → Q σ' H) → gL js xs σ H Q := by
  induction h with
  | nil =>
    intro xs σ I al Q q
    cases al
    exact ⟨rfl, q σ I fun _ _ => rfl⟩
  | cons h t ih =>
    intro xs σ I al Q q
    rename_i j js d ds ρ ρ1 ρ2
    cases al with
    | cons hd tl =>
      rename_i v vs
      refine ⟨v, vs, rfl, ?_⟩
      have I1 := I.setv j h.eq.2 hd
      rw [h.eq.1] at I1
      refine ih vs _ I1 tl Q fun σ' I' hw => q σ' I' fun us hu => ?_
      rw [hw us fun i hi => hu i (List.mem_cons_of_mem _ hi), wipe_set (hu j List.mem_cons_self)]
theorem gPat_run {K : PySem.W.Frag} {B F H : Hp} {σ : L2.St} {p : Pat} {v : V} (hp : PSet1 p d ρ ρ') (I : EnvB K B F H σ ρ) (hd : Dq K B v d) {Q : L2.St → Hp → Prop} (q : ∀ σ', EnvB K B F H σ' ρ' → (∀ vs, (∀ j ∈ p.slots, j ∈ vs) → wipe σ' vs = wipe σ vs) → Q σ' H) : gPat K p v σ H Q := by
  cases hp with
  | nm h =>
    have I1 := I.setv _ h.eq.2 hd
    rw [h.eq.1] at I1
    exact q _ I1 fun vs hv => wipe_set (hv _ List.mem_cons_self)
  | tp h =>
    cases hd with
    | tup s al =>
      refine ⟨_, _, rfl, Evl.ex_t I.bh s, by rw [dpa_len al]; exact psets_len h, ?_⟩
      exact gL_run h _ σ I al Q q
theorem pat_nm {K : PySem.W.Frag} (c : Cv M N sc X) {j : Nat} (hj : Get j x N) (hl : locB sc x = true := by decide +kernel) : PG X (.Name x pos) (gPat K (.nm j)) :=
  pg_name (by rw [c.hN]; exact c.nd) (by rw [c.hN]; exact hj.at) (c.loc hl).1 (c.loc hl).2
theorem pat_tp2 {kk : Nat} (c : Cn M k N sc X W) {j1 j2 : Nat} (h1 : Get j1 x N) (h2 : Get j2 y N) (hl : (locB sc x && locB sc y) = true := by decide +kernel) : PG X (.Tuple [.Name x p2, .Name y p3] kk pos) (gPat M.K (.tp [j1, j2])) := by
  rw [Bool.and_eq_true] at hl
  rw [← c.eK]
  exact pg_tup c.calm (pgs_cons (pat_nm (K := X.K) c.toCv h1 hl.1) (pgs_cons (pat_nm (K := X.K) c.toCv h2 hl.2) pgs_nil))
theorem pat_tp3 {kk : Nat} (c : Cn M k N sc X W) {j1 j2 j3 : Nat} (h1 : Get j1 x N) (h2 : Get j2 y N) (h3 : Get j3 z N) (hl : (locB sc x && locB sc y && locB sc z) = true := by decide +kernel) : PG X (.Tuple [.Name x p2, .Name y p3, .Name z p4] kk pos) (gPat M.K (.tp [j1, j2, j3])) := by
  rw [Bool.and_eq_true, Bool.and_eq_true] at hl
  rw [← c.eK]
  exact pg_tup c.calm (pgs_cons (pat_nm (K := X.K) c.toCv h1 hl.1.1) (pgs_cons (pat_nm (K := X.K) c.toCv h2 hl.1.2) (pgs_cons (pat_nm (K := X.K) c.toCv h3 hl.2) pgs_nil)))
theorem pat_tp4 {kk : Nat} {u : Str} (c : Cn M k N sc X W) {j1 j2 j3 j4 : Nat} (h1 : Get j1 x N) (h2 : Get j2 y N) (h3 : Get j3 z N) (h4 : Get j4 u N) (hl : (locB sc x && locB sc y && locB sc z && locB sc u) = true := by decide +kernel) : PG X (.Tuple [.Name x p2, .Name y p3, .Name z p4, .Name u p5] kk pos) (gPat M.K (.tp [j1, j2, j3, j4])) := by
  rw [Bool.and_eq_true, Bool.and_eq_true, Bool.and_eq_true] at hl
  rw [← c.eK]
  exact pg_tup c.calm (pgs_cons (pat_nm (K := X.K) c.toCv h1 hl.1.1.1) (pgs_cons (pat_nm (K := X.K) c.toCv h2 hl.1.1.2) (pgs_cons (pat_nm (K := X.K) c.toCv h3 hl.1.2) (pgs_cons (pat_nm (K := X.K) c.toCv h4 hl.2) pgs_nil))))

theorem dv (c : Cv M N sc X) (hi : Get i x N) (hd : Get i (.v d) ρ) (hv : (visB sc x && okN x) = true := by decide +kernel) : DE M X (.Name x pos) ρ d := de_var c i hi.at hd.at hv
theorem de_ite (h : DT M X e ρ bb) (h1 : bb = true → DE M X a ρ d1) (h2 : bb = false → DE M X b ρ d2) : DE M X (.IfExp e a b pos) ρ (if bb = true then d1 else d2) := by
  cases bb with
  | true => exact de_if h (fun _ => h1 rfl) (fun z => by cases z)
  | false => exact de_if h (fun z => by cases z) (fun _ => h2 rfl)
theorem de_iteI {m n : Int} (h : DT M X e ρ bb) (h1 : bb = true → DE M X a ρ (.int m)) (h2 : bb = false → DE M X b ρ (.int n)) : DE M X (.IfExp e a b pos) ρ (.int (if bb = true then m else n)) := by
  cases bb with
  | true => exact de_if h (fun _ => h1 rfl) (fun z => by cases z)
  | false => exact de_if h (fun z => by cases z) (fun _ => h2 rfl)
theorem de_iteS {m n : Str} (h : DT M X e ρ bb) (h1 : bb = true → DE M X a ρ (.str m)) (h2 : bb = false → DE M X b ρ (.str n)) : DE M X (.IfExp e a b pos) ρ (.str (if bb = true then m else n)) := by
  cases bb with
  | true => exact de_if h (fun _ => h1 rfl) (fun z => by cases z)
  | false => exact de_if h (fun z => by cases z) (fun _ => h2 rfl)
theorem atD_of {α : Type} {xs : List α} {z : Int} {j : Nat} {v : α} (e : z = (j : Int)) (h : xs[j]? = some v) : atI xs z = some v := by
  subst e
  have hj := (List.getElem?_eq_some_iff.mp h).1
  unfold atI
  rw [Evl.ixN_nat hj]
  exact h
/-! ### blocks -/
theorem db_nil (h : ∃ ρ', Le ρ' ρ ∧ nx ρ') : DB M X W [] ρ nx R := db_of pss_nil fun B F σ H I E f => by
  obtain ⟨ρ', l, q⟩ := h
  exact f.nx ρ' σ H B q (Same.refl B) (I.le l)
theorem db_end (h : nx ρ) : DB M X W [] ρ nx R := db_nil ⟨ρ, Le.refl ρ, h⟩
theorem db_cons {st : Stmt} {rest : List Stmt} (h : DS M X W st ρ (fun ρ' => DB M X W rest ρ' nx R) R) : DB M X W (st :: rest) ρ nx R := db_of (pss_cons ps_sem pb_sem) fun B F σ H I E f =>
  h B F σ H I _ ⟨fun ρ' σ' H' B' q s I' => q B' F σ' H' I' E (f.mono s), fun d ρ' x σ' H' B' q s I' p => f.rt d ρ' x σ' H' B' q s I' p, f.ex, fun ρ' σ' H' B' q s I' => f.bk ρ' σ' H' B' q s I', fun ρ' σ' H' B' q s I' => f.ct ρ' σ' H' B' q s I'⟩
/-- a word between a statement and the rest -/
theorem db_cut {st : Stmt} {rest : List Stmt} (Mid : List Sl → Prop) (h : DS M X W st ρ Mid R) (h2 : ∀ ρ', Mid ρ' → DB M X W rest ρ' nx R) : DB M X W (st :: rest) ρ nx R := db_of (pss_cons ps_sem pb_sem) fun B F σ H I E f =>
  h B F σ H I _ ⟨fun ρ' σ' H' B' q s I' => h2 ρ' q B' F σ' H' I' E (f.mono s), fun d ρ' x σ' H' B' q s I' p => f.rt d ρ' x σ' H' B' q s I' p, f.ex, fun ρ' σ' H' B' q s I' => f.bk ρ' σ' H' B' q s I', fun ρ' σ' H' B' q s I' => f.ct ρ' σ' H' B' q s I'⟩
theorem db_le {st : List Stmt} (l : Le ρ' ρ) (h : DB M X W st ρ' nx R) : DB M X W st ρ nx R := fun B F σ H I E f => h B F σ H (I.le l) E f
theorem ds_le {st : Stmt} (l : Le ρ' ρ) (h : DS M X W st ρ' nx R) : DS M X W st ρ nx R := fun B F σ H I E f => h B F σ H (I.le l) E f
theorem db_freeze {st : List Stmt} (i : Nat) (hi : ρ[i]? = some (.ol ds)) (h : DB M X W st (ρ.set i (.v (.list ds))) nx R) : DB M X W st ρ nx R := fun B F σ H I E f => by
  obtain ⟨B', s, I'⟩ := I.freeze hi
  exact h B' F σ H I' E (f.mono s)
theorem ds_weak {st : Stmt} {nx' : List Sl → Prop} {R' : REnds} (h : DS M X W st ρ nx' R') (h1 : ∀ ρ, nx' ρ → nx ρ) (h2 : ∀ d ρ, R'.rt d ρ → R.rt d ρ) (h3 : ∀ C ρ, R'.ex C ρ → R.ex C ρ) (h4 : ∀ ρ, R'.bk ρ → R.bk ρ) (h5 : ∀ ρ, R'.ct ρ → R.ct ρ) : DS M X W st ρ nx R := fun B F σ H I E f =>
  h B F σ H I E ⟨fun ρ' σ' H' B' q s I' => f.nx ρ' σ' H' B' (h1 _ q) s I', fun d ρ' x σ' H' B' q s I' p => f.rt d ρ' x σ' H' B' (h2 _ _ q) s I' p, fun C ρ' σ' H' B' q s I' => f.ex C ρ' σ' H' B' (h3 _ _ q) s I', fun ρ' σ' H' B' q s I' => f.bk ρ' σ' H' B' (h4 _ q) s I', fun ρ' σ' H' B' q s I' => f.ct ρ' σ' H' B' (h5 _ q) s I'⟩

/-! ### statements -/
theorem ds_ret (he : DE M X e ρ d) (h : R.rt d ρ) : DS M X W (.Return (some e) pos) ρ nx R := ds_of (ps_ret pe_sem) fun B F σ H I E f => he B F σ H I _ fun v H' B' s I' p => f.rt d ρ v σ H' B' h s I' p
theorem ds_retN (h : R.rt .none ρ) : DS M X W (.Return none pos) ρ nx R := ds_of ps_retN fun B F σ H I E f => f.rt .none ρ .non σ H B h (Same.refl B) I .non
theorem ds_if {p q : List Stmt} (hc : DT M X e ρ bb) (h1 : bb = true → DB M X W p ρ nx R) (h2 : bb = false → DB M X W q ρ nx R) : DS M X W (.If e p q pos) ρ nx R := ds_of (ps_if pt_sem pb_sem pb_sem) fun B F σ H I E f => hc B F σ H I _ fun H' B' s I' => by
  cases bb with
  | true =>
    rw [if_pos rfl]
    exact h1 rfl B' F σ H' I' E (f.mono s)
  | false =>
    rw [if_neg Bool.false_ne_true]
    exact h2 rfl B' F σ H' I' E (f.mono s)
theorem ds_expr (he : DE M X e ρ d) (h : nx ρ) (hs : swapsWith e none pos.line X.env = pure false := by rfl) : DS M X W (.Expr e pos) ρ nx R := ds_of (ps_expr pe_sem hs) fun B F σ H I E f => he B F σ H I _ fun v H' B' s I' p => f.nx ρ σ H' B' h s I'
theorem ds_pass (h : nx ρ) : DS M X W (.Pass pos) ρ nx R := ds_of ps_pass fun B F σ H I E f => f.nx ρ σ H B h (Same.refl B) I
theorem ds_break (h : R.bk ρ) : DS M X W (.Break pos) ρ nx R := ds_of ps_break fun B F σ H I E f => f.bk ρ σ H B h (Same.refl B) I
theorem ds_cont (h : R.ct ρ) : DS M X W (.Continue pos) ρ nx R := ds_of ps_continue fun B F σ H I E f => f.ct ρ σ H B h (Same.refl B) I
theorem ds_set (c : Cv M N sc X) (hi : Get i x N) (he : DE M X e ρ d) (hr : SetAt i (.v d) ρ ρ') (h : nx ρ') (hs : swapsWith e (some (.Name x p2)) pos.line X.env = pure false := by rfl) (hl : locB sc x = true := by decide +kernel) : DS M X W (.Assign [.Name x p2] e pos) ρ nx R :=
  ds_of (ps_set (by rw [c.hN]; exact c.nd) (by rw [c.hN]; exact hi.at) (c.loc hl).1 pe_sem hs (c.loc hl).2) fun B F σ H I E f => he B F σ H I _ fun v H' B' s I' p => f.nx _ _ H' B' h s (by rw [← hr.eq.1]; exact I'.setv i hr.eq.2 p)
theorem ds_setN (c : Cv M N sc X) (hi : Get i x N) (he : DN M X e ρ ds) (hr : SetAt i (.ol ds) ρ ρ') (h : nx ρ') (hs : swapsWith e (some (.Name x p2)) pos.line X.env = pure false := by rfl) (hl : locB sc x = true := by decide +kernel) : DS M X W (.Assign [.Name x p2] e pos) ρ nx R :=
  ds_of (ps_set (by rw [c.hN]; exact c.nd) (by rw [c.hN]; exact hi.at) (c.loc hl).1 pe_sem hs (c.loc hl).2) fun B F σ H I E f => he B F σ H I _ fun p xs H' B' s hf I' hd => f.nx _ _ H' B' h s (by rw [← hr.eq.1]; exact I'.setol hf hd i hr.eq.2)
/-- target = e, the target of names -/
theorem ds_asg {tg : Expr} {p : Pat} (hg : PG X tg (gPat M.K p)) (he : DE M X e ρ d) (hp : PSet1 p d ρ ρ') (h : nx ρ') (hs : swapsWithSole [tg] e pos.line X.env = pure false := by rfl) (hw : swappedStores [tg] e X.env = pure none := by rfl)
    (h1 : (assignEach [tg] X.env).map (·.2) = [assign tg X.env] := by rfl) : DS M X W (.Assign [tg] e pos) ρ nx R := ds_of (ps_asg pe_sem hg hs hw h1) fun B F σ H I E f => he B F σ H I _ fun v H' B' s I' p =>
  gPat_run hp I' p fun σ' I2 _ => f.nx _ σ' H' B' h s I2
/-- what swappedStores tells, by the scope -/
def env0 (sc : Scope) : Env := { scope := sc, locals := 0, globals := 0, cells := [] }
theorem sw_env {env : Env} {sc : Scope} {ts : List Expr} (hs : env.scope = sc) : swappedStores ts e env = swappedStores ts e (env0 sc) := by
  have hn : env.kindOf = (env0 sc).kindOf := by funext id; rw [← hs]; rfl
  have hb : env.blockKind = (env0 sc).blockKind := by unfold Env.blockKind; rw [← hs]; rfl
  unfold swappedStores
  rw [hb, hn]
theorem sw1_env {env : Env} {sc : Scope} {t : Option Expr} {n : Nat} (hs : env.scope = sc) : swapsWith e t n env = swapsWith e t n (env0 sc) := by
  have hn : env.kindOf = (env0 sc).kindOf := by funext id; rw [← hs]; rfl
  have hb : env.blockKind = (env0 sc).blockKind := by unfold Env.blockKind; rw [← hs]; rfl
  have h0 : env.scope.kind = (env0 sc).scope.kind := by rw [hs]; rfl
  unfold swapsWith
  rw [hb, hn, h0]
/-- a, b = x, y of local names -/
theorem ds_par2 {k1 k2 : Nat} (c : Cn M k N sc X W) (hi : Get i x N) (hj : Get j y N) (ha : DA M X [a, b] ρ [d1, d2]) (hr : SetAt i (.v d1) ρ ρ') (hr2 : SetAt j (.v d2) ρ' ρ'') (h : nx ρ'') (hij : i ≠ j := by decide)
    (hw : swappedStores [.Tuple [.Name x p2, .Name y p3] k1 p4] (.Tuple [a, b] k2 p5) (env0 sc.rd) = pure (some [x, y]) := by kernel_rfl) (hl : (sc.rd.names.lookup x == some .local && sc.rd.names.lookup y == some .local) = true := by decide +kernel) :
    DS M X W (.Assign [.Tuple [.Name x p2, .Name y p3] k1 p4] (.Tuple [a, b] k2 p5) pos) ρ nx R := by
  rw [Bool.and_eq_true, beq_iff_eq, beq_iff_eq] at hl
  refine ds_of (ps_par c.calm (by rw [c.hN]; exact c.nd) (by rw [c.hN]; exact hi.at) (by rw [c.hN]; exact hj.at) hij (by rw [c.hs]; exact hl.1) (by rw [c.hs]; exact hl.2) pa_sem (by rw [sw_env c.hs]; exact hw)) fun B F σ H I E f => ha B F σ H I _ fun vs H' B' s I' p => ?_
  obtain ⟨v, w, rfl, q1, q2⟩ := inv_all2 p
  have I1 := I'.setv i hr.eq.2 q1
  rw [hr.eq.1] at I1
  have I2 := I1.setv j hr2.eq.2 q2
  rw [hr2.eq.1] at I2
  exact ⟨v, w, rfl, f.nx _ _ H' B' h s I2⟩
theorem inv_all3 {K : PySem.W.Frag} {B : Hp} {vs : List V} (h : DqAll K B vs [d1, d2, d3]) : ∃ u v w, vs = [u, v, w] ∧ Dq K B u d1 ∧ Dq K B v d2 ∧ Dq K B w d3 := by
  cases h with
  | cons h t =>
    obtain ⟨v, w, rfl, q1, q2⟩ := inv_all2 t
    exact ⟨_, v, w, rfl, h, q1, q2⟩
theorem ds_par3 {k1 k2 : Nat} {p6 : Pos} {ρ3 : List Sl} (c : Cn M k N sc X W) (hi : Get i x N) (hj : Get j y N) (hk : Get l z N) (ha : DA M X [a, b, c'] ρ [d1, d2, d3]) (hr : SetAt i (.v d1) ρ ρ') (hr2 : SetAt j (.v d2) ρ' ρ'') (hr3 : SetAt l (.v d3) ρ'' ρ3) (h : nx ρ3) (hij : i ≠ j := by decide) (hil : i ≠ l := by decide) (hjl : j ≠ l := by decide)
    (hw : swappedStores [.Tuple [.Name x p2, .Name y p3, .Name z p6] k1 p4] (.Tuple [a, b, c'] k2 p5) (env0 sc.rd) = pure (some [x, y, z]) := by kernel_rfl) (hl : (sc.rd.names.lookup x == some .local && sc.rd.names.lookup y == some .local && sc.rd.names.lookup z == some .local) = true := by decide +kernel) :
    DS M X W (.Assign [.Tuple [.Name x p2, .Name y p3, .Name z p6] k1 p4] (.Tuple [a, b, c'] k2 p5) pos) ρ nx R := by
  rw [Bool.and_eq_true, Bool.and_eq_true, beq_iff_eq, beq_iff_eq, beq_iff_eq] at hl
  refine ds_of (ps_par3 c.calm (by rw [c.hN]; exact c.nd) (by rw [c.hN]; exact hi.at) (by rw [c.hN]; exact hj.at) (by rw [c.hN]; exact hk.at) hij hil hjl (by rw [c.hs]; exact hl.1.1) (by rw [c.hs]; exact hl.1.2) (by rw [c.hs]; exact hl.2) pa_sem (by rw [sw_env c.hs]; exact hw)) fun B F σ H I E f => ha B F σ H I _ fun vs H' B' s I' p => ?_
  obtain ⟨u, v, w, rfl, q1, q2, q3⟩ := inv_all3 p
  have I1 := I'.setv i hr.eq.2 q1
  rw [hr.eq.1] at I1
  have I2 := I1.setv j hr2.eq.2 q2
  rw [hr2.eq.1] at I2
  have I3 := I2.setv l hr3.eq.2 q3
  rw [hr3.eq.1] at I3
  exact ⟨u, v, w, rfl, f.nx _ _ H' B' h s I3⟩

/-! ### what is walked -/
def Yields (M : Md) (B1 : Hp) (J : It) (ds : List PyData) : Prop := ∀ B2 F H2 σ2 ρ2, Same B1 B2 → EnvB M.K B2 F H2 σ2 ρ2 →
  (∀ (i : Nat) d, ds[i]? = some d → J.go i H2 ∧ ∀ x H3, J.yld i H2 x H3 → ∃ B3, Same B2 B3 ∧ EnvB M.K B3 F H3 σ2 ρ2 ∧ Dq M.K B3 x d) ∧ J.stop ds.length H2
def DI (M : Md) (X : Cx) (tg iter : Expr) (ρ : List Sl) (ds : List PyData) : Prop := ∀ B F σ H, EnvB M.K B F H σ ρ → ∀ R : It → Hp → Prop, (∀ J H1 B1, Same B B1 → EnvB M.K B1 F H1 σ ρ → Yields M B1 J ds → R J H1) → semI X tg iter σ H R
theorem di_of {tg iter : Expr} {t : TI} (h : PI X tg iter t) (hv : ∀ B F σ H, EnvB M.K B F H σ ρ → ∀ Rk : It → Hp → Prop, (∀ J H1 B1, Same B B1 → EnvB M.K B1 F H1 σ ρ → Yields M B1 J ds → Rk J H1) → t σ H Rk) : DI M X tg iter ρ ds :=
  fun B F σ H I R r pins s iv => h.run pins s σ H R iv (hv B F σ H I R r)
theorem DI.eq {tg iter : Expr} {es : List PyData} (h : DI M X tg iter ρ ds) (q : ds = es) : DI M X tg iter ρ es := q ▸ h
theorem di_list {tg : Expr} (c : Cv M N sc X) (h : DE M X e ρ (.list ds)) : DI M X tg e ρ ds := di_of (pi_list pe_sem) fun B F σ H I Rk r => h B F σ H I _ fun v H1 B1 s I1 p => by
  cases p with
  | lst sq al =>
    rename_i a xs
    refine ⟨a, rfl, ⟨xs, SqL.of (I1.bh _ _ sq)⟩, r _ H1 B1 s I1 fun B2 F2 H2 σ2 ρ2 s2 I2 => ⟨fun i d hd => ?_, ?_⟩⟩
    · have hq : SqL X.K H2 a xs := SqL.of ((s2.trans I2.bh) _ _ sq)
      obtain ⟨w, hw, hp⟩ := dpa_getd al i d hd
      refine ⟨⟨xs, w, hq, hw⟩, fun x H3 hy => ?_⟩
      obtain ⟨rfl, hx⟩ := hy
      have e : x = w := Option.some.inj ((hx xs hq).symm.trans hw)
      subst e
      exact ⟨B2, Same.refl B2, I2, dp_mono s2 hp⟩
    · exact ⟨xs, SqL.of ((s2.trans I2.bh) _ _ sq), by rw [dpa_len al]; exact Nat.le_refl _⟩
theorem di_tup {tg : Expr} (c : Cv M N sc X) (h : DE M X e ρ (.tuple ds)) : DI M X tg e ρ ds := di_of (pi_tup pe_sem) fun B F σ H I Rk r => h B F σ H I _ fun v H1 B1 s I1 p => by
  cases p with
  | tup sq al =>
    rename_i a xs
    refine ⟨a, rfl, ⟨xs, by rw [c.eK]; exact Evl.ex_t I1.bh sq⟩, r _ H1 B1 s I1 fun B2 F2 H2 σ2 ρ2 s2 I2 => ⟨fun i d hd => ?_, ?_⟩⟩
    · have hq : SqT X.K H2 a xs := by rw [c.eK]; exact Evl.ex_t (s2.trans I2.bh) sq
      obtain ⟨w, hw, hp⟩ := dpa_getd al i d hd
      refine ⟨⟨xs, w, hq, hw⟩, fun x H3 hy => ?_⟩
      obtain ⟨rfl, hx⟩ := hy
      have e : x = w := Option.some.inj ((hx xs hq).symm.trans hw)
      subst e
      exact ⟨B2, Same.refl B2, I2, dp_mono s2 hp⟩
    · exact ⟨xs, by rw [c.eK]; exact Evl.ex_t (s2.trans I2.bh) sq, by rw [dpa_len al]; exact Nat.le_refl _⟩
def rangeD (lo : Int) (n : Nat) : List PyData := (List.range n).map fun i => .int (lo + (i : Nat))
theorem rangeD_get {lo : Int} {n : Nat} {i : Nat} (h : (rangeD lo n)[i]? = some d) : i < n ∧ d = .int (lo + i) := by
  unfold rangeD at h
  rw [List.getElem?_map] at h
  cases hq : (List.range n)[i]? with
  | none => rw [hq] at h; cases h
  | some m =>
    rw [hq] at h
    obtain ⟨h1, h2⟩ := List.getElem?_eq_some_iff.mp hq
    rw [List.getElem_range] at h2
    rw [List.length_range] at h1
    subst h2
    exact ⟨h1, (Option.some.inj h).symm⟩
theorem rangeD_len {lo : Int} {n : Nat} : (rangeD lo n).length = n := by unfold rangeD; rw [List.length_map, List.length_range]
theorem yields_rng {B1 : Hp} {lo : Int} {n : Nat} : Yields M B1 (Itr lo n) (rangeD lo n) := fun B2 F2 H2 σ2 ρ2 s2 I2 => ⟨fun i d hd => by
    obtain ⟨h1, h2⟩ := rangeD_get hd
    refine ⟨h1, fun x H3 hy => ?_⟩
    obtain ⟨rfl, rfl⟩ := hy
    subst h2
    exact ⟨B2, Same.refl B2, I2, .int _⟩, by rw [rangeD_len]; exact Nat.le_refl _⟩
theorem di_range1 {tg : Expr} {q : Pos} {m : Int} (c : Cv M N sc X) (hm : M.mg "range" = none) (ha : DE M X e ρ (.int m)) (hb : -(2 ^ 62) ≤ m ∧ m < 2 ^ 62) (hs : starEach (e :: []) X.env = (false, eval e X.env) :: starEach [] X.env := by rfl) (hg : glB sc "range" = true := by decide +kernel) : DI M X tg (.Call (.Name "range" q) [e] [] pos) ρ (rangeD 0 m.toNat) :=
  di_of (pi_range1 (c.gl hg) (by rw [c.eg]; exact hm) (pa_cons pe_sem pa_nil hs) hs) fun B F σ H I Rk r => ha B F σ H I _ fun v H1 B1 s I1 p => by
    cases p
    exact ⟨m, rfl, hb.1, hb.2, r _ H1 B1 s I1 yields_rng⟩
theorem di_range2 {tg : Expr} {q : Pos} {m n : Int} (c : Cv M N sc X) (hm : M.mg "range" = none) (ha : DE M X a ρ (.int m)) (hn : DE M X b ρ (.int n)) (hb : -(2 ^ 62) ≤ m ∧ m < 2 ^ 62 ∧ -(2 ^ 62) ≤ n ∧ n < 2 ^ 62)
    (hs : starEach (a :: [b]) X.env = (false, eval a X.env) :: starEach [b] X.env := by rfl) (hs2 : starEach (b :: []) X.env = (false, eval b X.env) :: starEach [] X.env := by rfl) (hg : glB sc "range" = true := by decide +kernel) : DI M X tg (.Call (.Name "range" q) [a, b] [] pos) ρ (rangeD m (n - m).toNat) :=
  di_of (pi_range2 (c.gl hg) (by rw [c.eg]; exact hm) (pa_cons pe_sem (pa_cons pe_sem pa_nil hs2) hs) (by rw [hs, hs2]; rfl) hs2) fun B F σ H I Rk r => ha B F σ H I _ fun v H1 B1 s I1 p => by
    cases p
    refine hn B1 F σ H1 I1 _ fun v2 H2 B2 s2 I2 p2 => ?_
    cases p2
    exact ⟨m, n, rfl, hb, r _ H2 B2 (s.trans s2) I2 yields_rng⟩

/-! ### loops -/
theorem ds_for {tg iter : Expr} {body : List Stmt} {p : Pat} (c : Cn M k N sc X W) (hg : PG X tg (gPat M.K p)) (hi : DI M X tg iter ρ ds) (inv : Nat → List Sl → Prop) (h0 : inv 0 ρ)
    (hs : ∀ (i : Nat) d ρ', ds[i]? = some d → inv i ρ' → ∃ ρ'', PSet1 p d ρ' ρ'' ∧ DB M X W body ρ'' (inv (i + 1)) { R with ct := inv (i + 1), bk := nx }) (hd : ∀ ρ', inv ds.length ρ' → nx ρ')
    (hf : ∀ x, foldedSetIterable iter X.env x = pure x := by intro _; rfl) : DS M X W (.For tg iter body [] pos) ρ nx R :=
  ds_of (ps_for c.po c.calm pi_sem hg pb_sem hf) fun B F σ H I E f => hi B F σ H I _ fun J H1 B1 s1 I1 hy => by
    refine ⟨fun i m σ' H' => m = ds.length - i ∧ i ≤ ds.length ∧ ∃ ρ' B', inv i ρ' ∧ Same B1 B' ∧ EnvB M.K B' F H' σ' ρ', ⟨ds.length, by simp, Nat.zero_le _, ρ, B1, h0, Same.refl B1, I1⟩, ?_⟩
    rintro i m σ' H' ⟨rfl, hi, ρ', B', hv, s', I'⟩
    obtain ⟨hgo, hst⟩ := hy B' F H' σ' ρ' s' I'
    by_cases hlt : i < ds.length
    · obtain ⟨go, yl⟩ := hgo i ds[i] (List.getElem?_eq_getElem hlt)
      obtain ⟨ρ'', hp, hb⟩ := hs i ds[i] ρ' (List.getElem?_eq_getElem hlt) hv
      refine .inr ⟨go, fun σ2 H2 => ∃ ρ2 B2, inv (i + 1) ρ2 ∧ Same B1 B2 ∧ EnvB M.K B2 F H2 σ2 ρ2, fun σ2 H2 hN => ?_, fun x H3 hy3 => ?_⟩
      · exact ⟨ds.length - (i + 1), by omega, rfl, hlt, hN⟩
      · obtain ⟨B3, s3, I3, p3⟩ := yl x H3 hy3
        refine gPat_run hp I3 p3 fun σ4 I4 _ => hb B3 F σ4 H3 I4 _ ?_
        have sB : Same B B3 := (s1.trans s').trans s3
        exact ⟨fun ρ5 σ5 H5 B5 q s5 I5 => ⟨ρ5, B5, q, (s'.trans s3).trans s5, I5⟩, fun d ρ5 x σ5 H5 B5 q s5 I5 p5 => f.rt d ρ5 x σ5 H5 B5 q (sB.trans s5) I5 p5, fun C ρ5 σ5 H5 B5 q s5 I5 => f.ex C ρ5 σ5 H5 B5 q (sB.trans s5) I5,
          fun ρ5 σ5 H5 B5 q s5 I5 => f.nx ρ5 σ5 H5 B5 q (sB.trans s5) I5, fun ρ5 σ5 H5 B5 q s5 I5 => ⟨ρ5, B5, q, (s'.trans s3).trans s5, I5⟩⟩
    · have e : i = ds.length := by omega
      subst e
      exact .inl ⟨hst, f.nx ρ' σ' H' B' (hd ρ' hv) (s1.trans s') I'⟩
theorem ds_while {body : List Stmt} (c : Cn M k N sc X W) (inv : Nat → List Sl → Prop) (m0 : Nat) (h0 : inv m0 ρ)
    (hs : ∀ m ρ', inv m ρ' → ∃ bb, DT M X e ρ' bb ∧ (bb = true → DB M X W body ρ' (fun ρ2 => ∃ m', m' < m ∧ inv m' ρ2) { R with ct := fun ρ2 => ∃ m', m' < m ∧ inv m' ρ2, bk := nx }) ∧ (bb = false → nx ρ')) : DS M X W (.While e body [] pos) ρ nx R :=
  ds_of (ps_while c.po pt_sem pb_sem) fun B F σ H I E f => by
    refine ⟨fun m σ' H' => ∃ ρ' B', inv m ρ' ∧ Same B B' ∧ EnvB M.K B' F H' σ' ρ', ⟨m0, ρ, B, h0, Same.refl B, I⟩, ?_⟩
    rintro m σ' H' ⟨ρ', B', hv, s', I'⟩
    obtain ⟨bb, hc, h1, h2⟩ := hs m ρ' hv
    refine hc B' F σ' H' I' _ fun H2 B2 s2 I2 => ?_
    cases bb with
    | true =>
      rw [if_pos rfl]
      refine ⟨fun σ5 H5 => ∃ ρ5 B5, (∃ m', m' < m ∧ inv m' ρ5) ∧ Same B B5 ∧ EnvB M.K B5 F H5 σ5 ρ5, fun σ5 H5 hN => ?_, h1 rfl B2 F σ' H2 I2 _ ?_⟩
      · obtain ⟨ρ5, B5, ⟨m', hm, hv5⟩, s5, I5⟩ := hN
        exact ⟨m', hm, ρ5, B5, hv5, s5, I5⟩
      · have sB : Same B B2 := s'.trans s2
        exact ⟨fun ρ5 σ5 H5 B5 q s5 I5 => ⟨ρ5, B5, q, sB.trans s5, I5⟩, fun d ρ5 x σ5 H5 B5 q s5 I5 p5 => f.rt d ρ5 x σ5 H5 B5 q (sB.trans s5) I5 p5, fun C ρ5 σ5 H5 B5 q s5 I5 => f.ex C ρ5 σ5 H5 B5 q (sB.trans s5) I5,
          fun ρ5 σ5 H5 B5 q s5 I5 => f.nx ρ5 σ5 H5 B5 q (sB.trans s5) I5, fun ρ5 σ5 H5 B5 q s5 I5 => ⟨ρ5, B5, q, sB.trans s5, I5⟩⟩
    | false =>
      rw [if_neg Bool.false_ne_true]
      exact f.nx ρ' σ' H2 B2 (h2 rfl) (s'.trans s2) I2
end

/-! ### defs -/
theorem passN {X : Cx} : Passes (L2N.CX X.prog X.w) X E0 := fun _ _ _ _ _ _ _ h => by
  obtain ⟨_, _, _, _, _, _, _, _, _, _, _, _, z⟩ := h
  exact z.elim
theorem takesN {X : Cx} : L2N.Takes X (fun _ _ _ _ => False) := fun _ _ x => by
  obtain ⟨_, _, _, _, _, _, _, _, _, _, _, _, _, _, _, _, z⟩ := x
  exact z.elim
inductive Out where
  | ret (d : PyData)
  | exc (C : Addr)
def spX (K : PySem.W.Frag) (φ : List PyData → Out → Prop) : Sp := fun vs H Q E => ∃ ds o B F, φ ds o ∧ DqAll K B vs ds ∧ Same B H ∧ Same F H ∧ (∀ a u, F a = some u → B a = none ∧ ∀ xs, u ≠ .tup xs) ∧
  (∀ d, o = .ret d → ∀ v H' B', Same B B' → Same F H' → Same B' H' → (∀ a u, F a = some u → B' a = none ∧ ∀ xs, u ≠ .tup xs) → Dq K B' v d → Q v H') ∧ (∀ C, o = .exc C → ∀ H', Same B H' → Same F H' → E (.ref C) none H')
structure Fok (M : Md) (k : Nat) (x : Str) (φ : List PyData → Out → Prop) : Prop where
  ex : ∃ f fd ps, FnOk M.P M.w M.K M.mg M.base (L2N.CX M.P M.w) k f fd ps (spX M.K φ) ∧ M.mg x = some (.ref f) ∧ PySem.W.keepIn M.K (.ref f) = true ∧ Binds M.K fd ps []
theorem Fok.mono {M : Md} {j k : Nat} {x : Str} {φ : List PyData → Out → Prop} (F : Fok M j x φ) (h : j ≤ k) : Fok M k x φ := by
  obtain ⟨f, fd, ps, h1, h2⟩ := F.ex
  exact ⟨f, fd, ps, h1.mono h, h2⟩
/-- all of H but B, and but tuples -/
def rem (H B : Hp) : Hp := fun a => match B a with
  | none => match H a with
    | some (.tup _) => none
    | u => u
  | some _ => none
theorem rem_same {H B : Hp} : Same (rem H B) H := fun a o e => by
  unfold rem at e
  split at e
  · split at e
    · cases e
    · exact e
  · cases e
theorem rem_dj {H B : Hp} {a : Addr} {u : HO} (e : rem H B a = some u) : B a = none ∧ ∀ xs, u ≠ .tup xs := by
  unfold rem at e
  split at e
  · refine ⟨by assumption, fun xs z => ?_⟩
    subst z
    split at e
    · cases e
    · rename_i q
      exact q _ e
  · cases e
theorem rem_at {H B : Hp} {a : Addr} {u : HO} (h : B a = none) (hu : H a = some u) (hn : ∀ xs, u ≠ .tup xs) : rem H B a = some u := by
  unfold rem
  rw [h, hu]
  dsimp only
  split
  · rename_i q
    cases q
    exact absurd rfl (hn _)
  · rfl
theorem hold_thin {K : PySem.W.Frag} {B H : Hp} {O : Own} {i : Nat} {x : V} {s : Sl} (h : Hold K B H O i x s) : Hold K B H (fun a => match H a with | some (.tup _) => none | _ => O a) i x s := by
  cases s with
  | no => trivial
  | v d => exact h
  | r y => exact h
  | ol ds =>
    obtain ⟨l, xs, e1, e2, e3, e4⟩ := h
    exact ⟨l, xs, e1, by dsimp only; rw [e3]; exact e2, e3, e4⟩
  | od kvs =>
    obtain ⟨l, xs, e1, e2, e3, e4⟩ := h
    exact ⟨l, xs, e1, by dsimp only; rw [e3]; exact e2, e3, e4⟩
  | ot kvs =>
    obtain ⟨l, xs, e1, e2, e3, e4⟩ := h
    exact ⟨l, xs, e1, by dsimp only; rw [e3]; exact e2, e3, e4⟩
  | ll os =>
    obtain ⟨l, e1, e2, e3, e5⟩ := h
    refine ⟨l, e1, by dsimp only; rw [e3]; exact e2, e3, fun j a ds h1 => ?_⟩
    obtain ⟨f1, xs, f2, f3⟩ := e5 j a ds h1
    exact ⟨by dsimp only; rw [f2]; exact f1, xs, f2, f3⟩
  | lo c os =>
    obtain ⟨l, e1, e2, e3, e4⟩ := h
    refine ⟨l, e1, by dsimp only; rw [e3]; exact e2, e3, fun j a fs h1 => ?_⟩
    obtain ⟨dx, gs, g2, g3, g4, g5, g6, g7⟩ := e4 j a fs h1
    refine ⟨dx, gs, by dsimp only; rw [g4]; exact g2, by dsimp only; rw [g5]; exact g3, g4, g5, g6, Paired.mapP g7 fun p q z => ⟨z.1, ?_⟩⟩
    obtain ⟨_, z⟩ := z
    revert z
    cases q.2 with
    | v d => exact id
    | ol ds =>
      rintro ⟨l, xs, f1, f2, f3, f4⟩
      exact ⟨l, xs, f1, by dsimp only; rw [f3]; exact f2, f3, f4⟩
  | ob a c fs =>
    obtain ⟨dx, gs, e1, e2, e3, e4, e5, e6, e7⟩ := h
    refine ⟨dx, gs, e1, by dsimp only; rw [e4]; exact e2, by dsimp only; rw [e5]; exact e3, e4, e5, e6, Paired.mapP e7 fun p q z => ⟨z.1, ?_⟩⟩
    obtain ⟨_, z⟩ := z
    revert z
    cases q.2 with
    | v d => exact id
    | ol ds =>
      rintro ⟨l, xs, f1, f2, f3, f4⟩
      exact ⟨l, xs, f1, by dsimp only; rw [f3]; exact f2, f3, f4⟩
/-- what is owned is no tuple -/
theorem EnvB.thin {K : PySem.W.Frag} {B F H : Hp} {σ : L2.St} {ρ : List Sl} (I : EnvB K B F H σ ρ) : ∃ O : Own, (∀ a t, O a = some t → B a = none ∧ F a = none ∧ H a ≠ none) ∧ (∀ a t xs, O a = some t → H a ≠ some (.tup xs)) ∧ ∀ i s, ρ[i]? = some s → s = .no ∨ ∃ x, σ[i]? = some (some x) ∧ Hold K B H O i x s := by
  obtain ⟨O, h1, h2⟩ := I.own
  refine ⟨fun a => match H a with | some (.tup _) => none | _ => O a, fun a t e => ?_, fun a t xs e z => ?_, fun i s hs => ?_⟩
  · dsimp only at e
    split at e
    · cases e
    · exact h1 a t e
  · dsimp only at e
    rw [z] at e
    cases e
  · rcases h2 i s hs with z | ⟨x, hx, hh⟩
    · exact .inl z
    · exact .inr ⟨x, hx, hold_thin hh⟩
/-- a tuple that lies about becomes shared -/
theorem EnvB.shareT {K : PySem.W.Frag} {B F H : Hp} {σ : L2.St} {ρ : List Sl} {b : Addr} {vs : List V} (I : EnvB K B F H σ ρ) (h : H b = some (.tup vs)) : ∃ B', Same B B' ∧ B' b = some (.tup vs) ∧ EnvB K B' F H σ ρ := by
  cases hb : B b with
  | some u =>
    have := I.bh b u hb
    rw [h] at this
    cases this
    exact ⟨B, Same.refl B, hb, I⟩
  | none =>
    obtain ⟨O, h1, h2, h3⟩ := I.thin
    refine ⟨upd B b (.tup vs), same_upd hb, upd_same, I.ln, fun a u e => ?_, I.fh, fun a u e => ?_, O, fun a t e => ?_, fun i s hs => ?_⟩
    · by_cases ha : a = b
      · rw [ha, upd_same] at e
        rw [ha, h]; exact e
      · rw [upd_ne ha] at e
        exact I.bh a u e
    · have q := I.dj a u e
      have ha : a ≠ b := fun z => by
        subst z
        have := I.fh a u e
        rw [h] at this
        cases this
        exact q.2 vs rfl
      rw [upd_ne ha]
      exact q
    · have ha : a ≠ b := fun z => h2 a t vs e (by rw [z]; exact h)
      rw [upd_ne ha]
      exact h1 a t e
    · rcases h3 i s hs with z | ⟨x, hx, hh⟩
      · exact .inl z
      · exact .inr ⟨x, hx, hold_mono (same_upd hb) (fun a t e => ⟨e, rfl⟩) hh⟩
/-- a new object that is nobody's -/
theorem EnvB.idle {K : PySem.W.Frag} {B F H : Hp} {σ : L2.St} {ρ : List Sl} (I : EnvB K B F H σ ρ) {p : Addr} {o : HO} (h : H p = none) : EnvB K B F (upd H p o) σ ρ := by
  refine ⟨I.ln, I.bh.trans (same_upd h), I.fh.trans (same_upd h), I.dj, ?_⟩
  obtain ⟨O, h1, h2⟩ := I.own
  have hp : ∀ a t, O a = some t → a ≠ p := fun a t e z => (h1 a t e).2.2 (by rw [z]; exact h)
  refine ⟨O, fun a t e => ?_, fun i s hs => ?_⟩
  · obtain ⟨q1, q2, q3⟩ := h1 a t e
    rw [upd_ne (hp a t e)]
    exact ⟨q1, q2, q3⟩
  · rcases h2 i s hs with z | ⟨x, hx, hh⟩
    · exact .inl z
    · exact .inr ⟨x, hx, hold_mono (Same.refl B) (fun a t e => ⟨e, upd_ne (hp a _ e)⟩) hh⟩
/-- behind a call -/
theorem EnvB.back {K : PySem.W.Frag} {B F H B' H' : Hp} {σ : L2.St} {ρ : List Sl} (I : EnvB K B F H σ ρ) (s1 : Same B B') (s2 : Same (rem H B) H') (s3 : Same B' H') (dj : ∀ a u, rem H B a = some u → B' a = none ∧ ∀ xs, u ≠ .tup xs) : EnvB K B' F H' σ ρ := by
  have hr : ∀ a u, F a = some u → rem H B a = some u := fun a u e => rem_at (I.dj a u e).1 (I.fh a u e) (I.dj a u e).2
  refine ⟨I.ln, s3, fun a u e => s2 a u (hr a u e), fun a u e => dj a u (hr a u e), ?_⟩
  obtain ⟨O, h1, h0, h2⟩ := I.thin
  have ho : ∀ a t, O a = some t → ∃ u, H a = some u ∧ rem H B a = some u := fun a t e => by
    obtain ⟨q1, _, q3⟩ := h1 a t e
    cases hu : H a with
    | none => exact absurd hu q3
    | some u => exact ⟨u, rfl, rem_at q1 hu fun xs z => h0 a t xs e (by rw [hu, z])⟩
  refine ⟨O, fun a t e => ?_, fun i s hs => ?_⟩
  · obtain ⟨u, e1, e2⟩ := ho a t e
    exact ⟨(dj a u e2).1, (h1 a t e).2.1, by rw [s2 a u e2]; simp⟩
  · rcases h2 i s hs with z | ⟨x, hx, hh⟩
    · exact .inl z
    · refine .inr ⟨x, hx, hold_mono s1 (fun a t e => ⟨e, ?_⟩) hh⟩
      obtain ⟨u, e1, e2⟩ := ho a _ e
      rw [s2 a u e2, e1]
section
variable {M : Md} {X : Cx} {W : WX} {N : List Str} {sc : Sco} {k kf : Nat} {ρ ρ' ρ'' : List Sl} {d d1 d2 d3 : PyData} {ds : List PyData} {e a b c' : Expr} {es : List Expr} {pos p2 p3 p4 p5 : Pos} {x y z : Str} {φ : List PyData → Out → Prop} {nx : List Sl → Prop} {R : REnds}
/-- a call that returns -/
theorem de_call {q : Pos} (c : Cn M k N sc X W) (G : Fok M kf x φ) (hk : kf ≤ k) (ha : DA M X (e :: es) ρ ds) (hφ : φ ds (.ret d)) (he : starEach (e :: es) X.env = (false, eval e X.env) :: starEach es X.env := by rfl)
    (hpl : (backTo pos (starEach es X.env)).any (·.1) = false := by rfl) (hg : (glB sc x && okN x) = true := by decide +kernel) : DE M X (.Call (.Name x q) (e :: es) [] pos) ρ d := by
  rw [Bool.and_eq_true] at hg
  obtain ⟨f, fd, ps, F, hm, hkp, hb⟩ := G.ex
  have F1 : FnOk X.prog X.w X.K X.mg X.base (L2N.CX X.prog X.w) kf f fd ps (spX M.K φ) := by rw [c.eP, c.ew, c.eK, c.eg, c.eb]; exact F
  refine de_of (pe_call F1 (c.room.mono hk) (c.gl hg.1) (by rw [c.eg]; exact hm) (by rw [c.eK]; exact hkp) (by rw [c.eK]; exact hb) .nil (passN (X := X)) pa_sem (okN1 hg.2) he hpl) fun B F σ H I Q q => ?_
  refine ha B F σ H I _ fun vs H1 B1 s1 I1 p1 => ?_
  refine ⟨ds, .ret d, B1, rem H1 B1, hφ, by rw [List.append_nil]; exact p1, I1.bh, rem_same, fun a u => rem_dj, fun d' hd v H' B' t1 t2 t3 t4 pv => ?_, fun C hC => by cases hC⟩
  cases hd
  exact q v H' B' (s1.trans t1) (I1.back t1 t2 t3 t4) pv
theorem de_call0 {q : Pos} (c : Cn M k N sc X W) (G : Fok M kf x φ) (hk : kf ≤ k) (hφ : φ [] (.ret d)) (hg : (glB sc x && okN x) = true := by decide +kernel) : DE M X (.Call (.Name x q) [] [] pos) ρ d := by
  rw [Bool.and_eq_true] at hg
  obtain ⟨f, fd, ps, F, hm, hkp, hb⟩ := G.ex
  have F1 : FnOk X.prog X.w X.K X.mg X.base (L2N.CX X.prog X.w) kf f fd ps (spX M.K φ) := by rw [c.eP, c.ew, c.eK, c.eg, c.eb]; exact F
  refine de_of (pe_call0 F1 (c.room.mono hk) (c.gl hg.1) (by rw [c.eg]; exact hm) (by rw [c.eK]; exact hkp) (by rw [c.eK]; exact hb) .nil (passN (X := X)) (okN1 hg.2)) fun B F σ H I Q q => ?_
  refine ⟨[], .ret d, B, rem H B, hφ, .nil, I.bh, rem_same, fun a u => rem_dj, fun d' hd v H' B' t1 t2 t3 t4 pv => ?_, fun C hC => by cases hC⟩
  cases hd
  exact q v H' B' t1 (I.back t1 t2 t3 t4) pv
/-- the frame is the def's own -/
def Tr (X : Cx) : Prop := X.stack = X.env :: X.outer ∧ X.env.frame = some X.env.locals
/-- THE RULE for a def -/
theorem fn_mkT {st : Stmt} {f : Addr} {fd : FuncData} {qual : Str} {ps : List Str} (F : Fun M.K x qual st f fd) (S : FnScope N ps (defScope st)) (hlen : ∀ ds o, φ ds o → ds.length = ps.length)
    (hbody : ∀ (X : Cx) (W : WX) (ds : List PyData) (o : Out), Cn M k N ⟨defScope st, defScope st⟩ X W → Tr X → φ ds o → DB M X W (defBody st) (ds.map .v ++ List.replicate (N.length - ds.length) .no) (fun _ => o = .ret .none) { rt := fun d _ => o = .ret d, ex := fun C _ => o = .exc C }) : FnOk M.P M.w M.K M.mg M.base (L2N.CX M.P M.w) (k + 1) f fd ps (spX M.K φ) := by
  obtain ⟨oc, od, kV, doc, pm, an, cdv, ct, osl, rfl, lk, hcd⟩ := F.ex
  refine fn_of lk hcd S (fun vs H Q E h => ?_) (fun A outer s H vs Q E hr h => ?_)
  · obtain ⟨ds, o, B, F, hφ, al, _⟩ := h
    rw [dpa_len al]
    exact hlen ds o hφ
  · obtain ⟨ds, o, B, F', hφ, al, sB, sF, dj, hret, hexc⟩ := h
    have hps : ps.length ≤ N.length := by have := congrArg List.length S.pre; rw [List.length_take] at this; omega
    have hn := dpa_len al
    have hl := hlen ds o hφ
    have c : Cn M k N ⟨defScope st, defScope st⟩ (cxOf (L2N.CX M.P M.w) M.P M.w M.K M.mg M.base N qual (defScope st) f cdv A outer s H E) (fun cls d _ H => E cls d H) :=
      { eP := rfl, ew := rfl, eK := rfl, eg := rfl, eb := rfl, hN := rfl, nd := S.nd, hs := rfl, kind := S.kind, loc := fun h => loc_def rfl (fun _ => rfl) h, un := by have := hr.un; show _ + 200 < _; simp only [cxOf]; omega, calm := rfl, room := hr, tk := L2N.takes_of rfl rfl rfl rfl, po := passes_of rfl }
    refine ⟨_, pb_sem, hbody _ _ ds o c ⟨rfl, rfl⟩ hφ B F' (L2.start N vs) H ?_ _ ?_⟩
    · refine ⟨?_, sB, sF, dj, fun _ => none, (fun a t e => by cases e), fun i s hs => ?_⟩
      · unfold L2.start
        rw [List.length_append, List.length_append, List.length_map, List.length_map, List.length_replicate, List.length_replicate, hn]
      · by_cases hi : i < ds.length
        · rw [List.getElem?_append_left (by simpa using hi), List.getElem?_map] at hs
          cases hq : ds[i]? with
          | none => rw [hq] at hs; cases hs
          | some d =>
            rw [hq] at hs
            cases hs
            obtain ⟨v, hv, hp⟩ := dpa_getd al i d hq
            refine .inr ⟨v, ?_, hp⟩
            unfold L2.start
            rw [List.getElem?_append_left (by rw [List.length_map]; omega), List.getElem?_map, hv]
            rfl
        · rw [List.getElem?_append_right (by simpa using hi), List.getElem?_replicate] at hs
          split at hs
          · cases hs; exact .inl rfl
          · cases hs
    · refine ⟨fun ρ σ' H' B' q t I' => ?_, fun d ρ x σ' H' B' q t I' p => ?_, fun C ρ σ' H' B' q t I' => ?_, fun ρ σ' H' B' q t I' => q.elim, fun ρ σ' H' B' q t I' => q.elim⟩
      · exact hret .none q .non H' B' t I'.fh I'.bh I'.dj .non
      · exact hret d q x H' B' t I'.fh I'.bh I'.dj p
      · exact hexc C q H' (t.trans I'.bh) I'.fh
theorem fn_mkD {st : Stmt} {f : Addr} {fd : FuncData} {qual : Str} {ps : List Str} (F : Fun M.K x qual st f fd) (S : FnScope N ps (defScope st)) (hlen : ∀ ds o, φ ds o → ds.length = ps.length)
    (hbody : ∀ (X : Cx) (W : WX) (ds : List PyData) (o : Out), Cn M k N ⟨defScope st, defScope st⟩ X W → φ ds o → DB M X W (defBody st) (ds.map .v ++ List.replicate (N.length - ds.length) .no) (fun _ => o = .ret .none) { rt := fun d _ => o = .ret d, ex := fun C _ => o = .exc C }) : FnOk M.P M.w M.K M.mg M.base (L2N.CX M.P M.w) (k + 1) f fd ps (spX M.K φ) :=
  fn_mkT F S hlen fun X W ds o c _ h => hbody X W ds o c h
theorem fok_mkT {st : Stmt} {f : Addr} {fd : FuncData} {qual : Str} {ps : List Str} (F : Fun M.K x qual st f fd) (hm : M.mg x = some (.ref f)) (hb : Binds M.K fd ps []) (S : FnScope N ps (defScope st)) (hlen : ∀ ds o, φ ds o → ds.length = ps.length)
    (hbody : ∀ (X : Cx) (W : WX) (ds : List PyData) (o : Out), Cn M k N ⟨defScope st, defScope st⟩ X W → Tr X → φ ds o → DB M X W (defBody st) (ds.map .v ++ List.replicate (N.length - ds.length) .no) (fun _ => o = .ret .none) { rt := fun d _ => o = .ret d, ex := fun C _ => o = .exc C }) : Fok M (k + 1) x φ := by
  exact ⟨f, fd, ps, fn_mkT F S hlen hbody, hm, F.kp, hb⟩
theorem fok_mk {st : Stmt} {f : Addr} {fd : FuncData} {qual : Str} {ps : List Str} (F : Fun M.K x qual st f fd) (hm : M.mg x = some (.ref f)) (hb : Binds M.K fd ps []) (S : FnScope N ps (defScope st)) (hlen : ∀ ds o, φ ds o → ds.length = ps.length)
    (hbody : ∀ (X : Cx) (W : WX) (ds : List PyData) (o : Out), Cn M k N ⟨defScope st, defScope st⟩ X W → φ ds o → DB M X W (defBody st) (ds.map .v ++ List.replicate (N.length - ds.length) .no) (fun _ => o = .ret .none) { rt := fun d _ => o = .ret d, ex := fun C _ => o = .exc C }) : Fok M (k + 1) x φ := by
  exact ⟨f, fd, ps, fn_mkD F S hlen hbody, hm, F.kp, hb⟩
/-- the law's promise, of the script -/
theorem sp_script {K : PySem.W.Frag} {H : Hp} {a : Addr} {ns : List Int} (h : SqL K H a (ns.map V.int)) (hφ : φ [scrD ns] (.ret (.bool true))) : spX K φ [.ref a] H (fun v _ => v = .bl true) fun _ _ _ => False :=
  ⟨[scrD ns], .ret (.bool true), H, fun _ => none, hφ, .cons (.scr rfl h) .nil, Same.refl H, (fun _ _ e => by cases e), (fun _ _ e => by cases e), fun d hd v H' B' _ _ _ _ p => by
    cases hd
    cases p
    rfl, fun C hC => by cases hC⟩
theorem cx_no {P : Program} {w : World} {H : Hp} {s : Shared} {u : Value} {s' : Shared} (h : L2N.CX P w [] H s (fun _ _ _ => False) u s') : False := by
  obtain ⟨_, _, _, _, _, _, _, _, _, _, _, _, z⟩ := h
  exact z
end
end Dl

namespace Dl
open PySem PySem.Spec PyProof.Rows L2

/-! ### texts as lists of signs -/
abbrev S (l : List Nat) : PyData := .str ⟨l.toArray⟩
theorem str_inj {a b : List Nat} (h : (⟨a.toArray⟩ : Str) = ⟨b.toArray⟩) : a = b := by
  injection h with h
  simpa using h
theorem str_dec (a b : List Nat) : decide ((⟨a.toArray⟩ : Str) = ⟨b.toArray⟩) = decide (a = b) := by
  by_cases e : a = b
  · rw [e, decide_eq_true rfl, decide_eq_true rfl]
  · rw [decide_eq_false e, decide_eq_false fun z => e (str_inj z)]
section
variable {M : Md} {X : Cx} {W : WX} {N : List Str} {sc : Sco} {k : Nat} {ρ ρ' ρ'' : List Sl} {d d1 d2 d3 d' : PyData} {ds es' : List PyData} {e a b c' o : Expr} {es : List Expr} {pos p2 p3 p4 p5 apos : Pos} {x y z : Str} {bb b1 b2 : Bool} {i j l : Nat} {nx : List Sl → Prop} {R : REnds} {s t : List Nat} {m n : Int}
theorem de_strS {y : Str} {j} (l : List Nat) (h : y = ⟨l.toArray⟩) : DE M X (.Constant (.str y) j pos) ρ (S l) := by
  subst h
  exact de_str
theorem o_addS (h : s.length + t.length ≤ 100000) : Op2 M X (binaryOp .Add) (S s) (S t) (S (s ++ t)) := op2_val op_add_str inv_str inv_str (fun B => .str _) fun H Q q => ⟨_, _, rfl, rfl, by
  show s.toArray.size + t.toArray.size ≤ _
  rw [List.size_toArray, List.size_toArray]
  exact Evl.sz_of h, by
  have e : (⟨s.toArray⟩ ++ ⟨t.toArray⟩ : Str) = ⟨(s ++ t).toArray⟩ := by
    show (⟨s.toArray ++ t.toArray⟩ : Str) = _
    simp
  rw [e]
  exact q⟩
theorem o_ltS : Op2 M X (compareOp .Lt) (S s) (S t) (.bool (decide (s < t))) := op2_val op_lt_str inv_str inv_str (fun B => .bl _) fun H Q q => ⟨_, _, rfl, rfl, q⟩
theorem o_eqSS : Op2 M X (compareOp .Eq) (S s) (S t) (.bool (decide (s = t))) := by
  rw [← str_dec]
  exact o_eqS
theorem o_neSS : Op2 M X (compareOp .NotEq) (S s) (S t) (.bool (!decide (s = t))) := by
  rw [← str_dec]
  exact o_neS
theorem o_inS {q : Nat} : Op2 M X (compareOp .In) (S [q]) (S t) (.bool (decide (q ∈ t))) := op2_val op_in_sign inv_str inv_str (fun B => .bl _) fun H Q h => ⟨q, _, rfl, rfl, h⟩
theorem o_niS {q : Nat} : Op2 M X (compareOp .NotIn) (S [q]) (S t) (.bool (!decide (q ∈ t))) := op2_val op_notIn_sign inv_str inv_str (fun B => .bl _) fun H Q h => ⟨q, _, rfl, rfl, h⟩
theorem o_isB : Op2 M X (compareOp .Is) (.bool b1) (.bool b2) (.bool (decide (b1 = b2))) := op2_val op_isBl inv_bl inv_bl (fun B => .bl _) fun H Q q => ⟨b1, b2, rfl, rfl, q⟩
theorem o_isnB : Op2 M X (compareOp .IsNot) (.bool b1) (.bool b2) (.bool (!decide (b1 = b2))) := op2_val op_notBl inv_bl inv_bl (fun B => .bl _) fun H Q q => ⟨b1, b2, rfl, rfl, q⟩
/-! lists and tuples joined -/
theorem o_addL (h : ds.length + es'.length ≤ 10000000) : Op2 M X (binaryOp .Add) (.list ds) (.list es') (.list (ds ++ es')) := ⟨_, op_cat, fun B F σ H ρ u1 u2 I p1 p2 Q q => by
  cases p1 with
  | lst s1 a1 =>
    cases p2 with
    | lst s2 a2 =>
      refine ⟨_, _, _, _, rfl, rfl, I.bh _ _ s1, I.bh _ _ s2, ?_, fun p hp => ?_⟩
      · rw [dpa_len a1, dpa_len a2]
        exact Nat.le_trans h (by decide)
      · obtain ⟨t1, I2⟩ := I.new (o := .lst _) hp
        exact q _ _ _ t1 I2 (.lst upd_same (dpa_mono t1 (dpa_app a1 a2)))⟩
theorem dn_addL (ha : DE M X a ρ (.list ds)) (hb : DE M X b ρ (.list es')) (h : ds.length + es'.length ≤ 10000000) : DN M X (.BinOp a .Add b pos) ρ (ds ++ es') := dn_of (pe_op op_cat pe_sem pe_sem) fun B F σ H I Q q => run2 (R := fun v1 v2 H' => rCat v1 v2 H' Q) ha hb I fun v1 v2 H' B' s I' p1 p2 => by
  cases p1 with
  | lst s1 a1 =>
    cases p2 with
    | lst s2 a2 =>
      refine ⟨_, _, _, _, rfl, rfl, I'.bh _ _ s1, I'.bh _ _ s2, ?_, fun p hp => ?_⟩
      · rw [dpa_len a1, dpa_len a2]
        exact Nat.le_trans h (by decide)
      · exact q p _ _ B' s (I'.fh.free hp) (I'.lay hp) (dpa_app a1 a2)
theorem o_addT (c : Cv M N sc X) (h : ds.length + es'.length ≤ 100000) : Op2 M X (binaryOp .Add) (.tuple ds) (.tuple es') (.tuple (ds ++ es')) := ⟨_, op_catA, fun B F σ H ρ u1 u2 I p1 p2 Q q => by
  cases p1 with
  | tup s1 a1 =>
    cases p2 with
    | tup s2 a2 =>
      refine ⟨_, _, _, _, rfl, rfl, by rw [c.eK]; exact Evl.ex_t I.bh s1, by rw [c.eK]; exact Evl.ex_t I.bh s2, ?_, fun z => ?_, fun _ z => ?_, fun _ _ p hp => ?_⟩
      · rw [dpa_len a1, dpa_len a2]
        exact Evl.sz_of h
      · subst z
        cases a1
        exact q _ _ _ (Same.refl B) I (.tup s2 a2)
      · subst z
        cases a2
        rw [List.append_nil] at q
        exact q _ _ _ (Same.refl B) I (.tup s1 a1)
      · obtain ⟨t1, I2⟩ := I.new (o := .tup _) hp
        exact q _ _ _ t1 I2 (.tup (.inl (.inl upd_same)) (dpa_mono t1 (dpa_app a1 a2)))⟩
theorem dpa_rep {K : PySem.W.Frag} {B : Hp} {vs : List V} (h : DqAll K B vs ds) : ∀ n : Nat, DqAll K B (List.replicate n vs).flatten (List.replicate n ds).flatten
  | 0 => .nil
  | n + 1 => by
    rw [List.replicate_succ, List.replicate_succ, List.flatten_cons, List.flatten_cons]
    exact dpa_app h (dpa_rep h n)
theorem dn_rep (ha : DE M X a ρ (.list ds)) (hb : DE M X b ρ (.int n)) (h : 0 ≤ n ∧ n ≤ 100000) (h2 : ds.length * n.toNat ≤ 100000) : DN M X (.BinOp a .Mult b pos) ρ (List.replicate n.toNat ds).flatten := dn_of (pe_op op_rep pe_sem pe_sem) fun B F σ H I Q q => run2 (R := fun v1 v2 H' => rRep v1 v2 H' Q) ha hb I fun v1 v2 H' B' s I' p1 p2 => by
  cases p2
  cases p1 with
  | lst s1 a1 =>
    refine ⟨_, n, _, rfl, rfl, I'.bh _ _ s1, by omega, by omega, ?_, fun p hp => ?_⟩
    · rw [dpa_len a1]
      exact Evl.sz_of h2
    · exact q p _ _ B' s (I'.fh.free hp) (I'.lay hp) (dpa_rep a1 _)
/-! in, of any data -/
theorem o_inL (c : Cv M N sc X) (h1 : SeqAt.shaped d = true) (h2 : SeqAt.shaped (.list ds) = true) : Op2 M X (compareOp .In) d (.list ds) (.bool (ds.any fun z => PyData.eqv z d)) :=
  ⟨_, op_inD (by have := c.un; omega), fun B F σ H ρ u1 u2 I p1 p2 Q q => ⟨d, ds, by rw [c.eK]; exact dq_dp (dp_mono I.bh p1) (SeqAt.canLay_of_shaped h1), by rw [c.eK]; exact dq_dp (dp_mono I.bh p2) (SeqAt.canLay_of_shaped h2), h1, h2, q _ _ _ (Same.refl B) I (.bl _)⟩⟩
theorem o_niL (c : Cv M N sc X) (h1 : SeqAt.shaped d = true) (h2 : SeqAt.shaped (.list ds) = true) : Op2 M X (compareOp .NotIn) d (.list ds) (.bool (!ds.any fun z => PyData.eqv z d)) :=
  ⟨_, op_notInD (by have := c.un; omega), fun B F σ H ρ u1 u2 I p1 p2 Q q => ⟨d, ds, by rw [c.eK]; exact dq_dp (dp_mono I.bh p1) (SeqAt.canLay_of_shaped h1), by rw [c.eK]; exact dq_dp (dp_mono I.bh p2) (SeqAt.canLay_of_shaped h2), h1, h2, q _ _ _ (Same.refl B) I (.bl _)⟩⟩
theorem dqa_map_inv {α : Type} {K : PySem.W.Frag} {B : Hp} {enc : α → PyData} {ev : α → V} (h : ∀ a v, Dq K B v (enc a) → v = ev a) : ∀ {as : List α} {vs : List V}, DqAll K B vs (as.map enc) → vs = as.map ev
  | [], _, q => by cases q; rfl
  | a :: as, _, q => by
    rw [List.map_cons] at q
    cases q with
    | cons h1 t => rw [h a _ h1, dqa_map_inv h t, List.map_cons]
theorem eqV_str (s t : List Nat) : eqV (.str ⟨s.toArray⟩) (.str ⟨t.toArray⟩) = decide (s = t) := by
  rw [← str_dec]
  show ((⟨s.toArray⟩ : Str) == ⟨t.toArray⟩) = _
  by_cases e : (⟨s.toArray⟩ : Str) = ⟨t.toArray⟩
  · rw [decide_eq_true e, e]; exact beq_self_eq_true _
  · rw [decide_eq_false e]; exact beq_eq_false_iff_ne.mpr e
theorem inV_str (t : List Nat) (lot : List (List Nat)) : inV (.str ⟨t.toArray⟩) (lot.map fun s => V.str ⟨s.toArray⟩) = decide (t ∈ lot) := by
  unfold inV
  rw [List.any_map]
  induction lot with
  | nil => simp
  | cons s r ih =>
    rw [List.any_cons, ih]
    show (eqV (.str ⟨s.toArray⟩) (.str ⟨t.toArray⟩) || _) = _
    rw [eqV_str]
    by_cases e : s = t
    · subst e; simp
    · have e' : ¬ t = s := fun z => e z.symm
      simp [e, e']
theorem all_flat (lot : List (List Nat)) : (lot.map fun s => V.str ⟨s.toArray⟩).all flatV = true := by
  rw [List.all_map]
  exact List.all_eq_true.mpr fun _ _ => rfl
/-- a text in a tuple of texts -/
theorem o_inT {lot : List (List Nat)} (c : Cv M N sc X) : Op2 M X (compareOp .In) (S t) (.tuple (lot.map S)) (.bool (decide (t ∈ lot))) := ⟨_, op_in_seq, fun B F σ H ρ u1 u2 I p1 p2 Q q => by
  cases p1
  cases p2 with
  | tup sq al =>
    have e := dqa_map_inv (ev := fun s : List Nat => V.str ⟨s.toArray⟩) (fun a v h => inv_str B v h) al
    subst e
    refine ⟨_, _, rfl, .inr (by rw [c.eK]; exact Evl.ex_t I.bh sq), rfl, all_flat lot, ?_⟩
    rw [if_neg Bool.false_ne_true, inV_str]
    exact q _ _ _ (Same.refl B) I (.bl _)⟩
theorem o_niT {lot : List (List Nat)} (c : Cv M N sc X) : Op2 M X (compareOp .NotIn) (S t) (.tuple (lot.map S)) (.bool (!decide (t ∈ lot))) := ⟨_, op_notIn_seq, fun B F σ H ρ u1 u2 I p1 p2 Q q => by
  cases p1
  cases p2 with
  | tup sq al =>
    have e := dqa_map_inv (ev := fun s : List Nat => V.str ⟨s.toArray⟩) (fun a v h => inv_str B v h) al
    subst e
    refine ⟨_, _, rfl, .inr (by rw [c.eK]; exact Evl.ex_t I.bh sq), rfl, all_flat lot, ?_⟩
    rw [if_pos rfl, inV_str]
    exact q _ _ _ (Same.refl B) I (.bl _)⟩
theorem o_niLS {lot : List (List Nat)} (c : Cv M N sc X) : Op2 M X (compareOp .NotIn) (S t) (.list (lot.map S)) (.bool (!decide (t ∈ lot))) := ⟨_, op_notIn_seq, fun B F σ H ρ u1 u2 I p1 p2 Q q => by
  cases p1
  cases p2 with
  | lst sq al =>
    have e := dqa_map_inv (ev := fun s : List Nat => V.str ⟨s.toArray⟩) (fun a v h => inv_str B v h) al
    subst e
    refine ⟨_, _, rfl, .inl (SqL.of (I.bh _ _ sq)), rfl, all_flat lot, ?_⟩
    rw [if_pos rfl, inV_str]
    exact q _ _ _ (Same.refl B) I (.bl _)⟩
/-! len, items, slices -/
theorem cl_lenS (h : s.length ≤ 100000) : Cl M X (.builtin "len") [S s] (.int s.length) := by
  have h1 := cl_len_str (M := M) (X := X) (y := ⟨s.toArray⟩) (by show s.toArray.size ≤ _; rw [List.size_toArray]; exact Evl.sz_of h)
  have e : ((⟨s.toArray⟩ : Str).length : Int) = (s.length : Int) := by show ((s.toArray.size : Nat) : Int) = _; rw [List.size_toArray]
  rw [e] at h1
  exact h1
theorem ix_s {q : Nat} (h : s.length ≤ 100000) (hi : atI s n = some q) : Ix M X (S s) (.int n) (S [q]) := ⟨_, ix_str, fun B F σ H ρ u1 u2 I p1 p2 Q k => by
  cases p1
  cases p2
  exact ⟨_, n, q, rfl, rfl, by show s.toArray.size ≤ _; rw [List.size_toArray]; exact Evl.sz_of h, hi, k _ _ _ (Same.refl B) I (.str _)⟩⟩
def DO (M : Md) (X : Cx) (e : Option Expr) (ρ : List Sl) (o : Option Int) : Prop := ∃ t : TO, PO X e t ∧ ∀ B F σ H, EnvB M.K B F H σ ρ → ∀ Q : Option Int → Hp → Prop, (∀ H' B', Same B B' → EnvB M.K B' F H' σ ρ → Q o H') → t σ H Q
theorem do_none : DO M X none ρ none := ⟨_, po_none, fun B F σ H I Q q => q H B (Same.refl B) I⟩
theorem do_some (h : DE M X e ρ (.int n)) : DO M X (some e) ρ (some n) := ⟨_, po_some pe_sem, fun B F σ H I Q q => h B F σ H I _ fun v H' B' s I' p => by
  cases p
  exact ⟨n, rfl, q H' B' s I'⟩⟩
def Slc (M : Md) (X : Cx) (d1 : PyData) (lo hi : Option Int) (d : PyData) : Prop := ∃ r, SlR X r ∧ ∀ B F σ H ρ v1, EnvB M.K B F H σ ρ → Dq M.K B v1 d1 → ∀ Q : VK, (∀ v H' B', Same B B' → EnvB M.K B' F H' σ ρ → Dq M.K B' v d → Q v H') → r v1 lo hi H Q
theorem de_sl {lo hi : Option Expr} {ol oh : Option Int} (he : DE M X e ρ d1) (hl : DO M X lo ρ ol) (hu : DO M X hi ρ oh) (hs : Slc M X d1 ol oh d) : DE M X (.Subscript e (.Slice lo hi none p2) pos) ρ d := by
  obtain ⟨tl, pl, ql⟩ := hl
  obtain ⟨th, ph, qh⟩ := hu
  obtain ⟨r, hr, hq⟩ := hs
  refine de_of (pe_slice hr pe_sem pl ph) fun B F σ H I Q q => he B F σ H I _ fun v1 H1 B1 s1 I1 p1 => ql B1 F σ H1 I1 _ fun H2 B2 s2 I2 => qh B2 F σ H2 I2 _ fun H3 B3 s3 I3 => ?_
  exact hq B3 F σ H3 ρ v1 I3 (dp_mono (s2.trans s3) p1) Q fun v H4 B4 s4 I4 p4 => q v H4 B4 (((s1.trans s2).trans s3).trans s4) I4 p4
def cut {α : Type} (xs : List α) (lo hi : Option Int) : List α := (xs.drop (HT.sIx xs.length 0 lo)).take (HT.sIx xs.length xs.length hi - HT.sIx xs.length 0 lo)
theorem sl_s {lo hi : Option Int} (h : s.length ≤ 100000) : Slc M X (S s) lo hi (S (cut s lo hi)) := ⟨_, sl_str, fun B F σ H ρ u1 I p1 Q q => by
  cases p1
  refine ⟨_, rfl, by show s.toArray.size ≤ _; rw [List.size_toArray]; exact Evl.sz_of h, ?_⟩
  have e : cutS ⟨s.toArray⟩ lo hi = ⟨(cut s lo hi).toArray⟩ := by
    unfold cutS cut
    have e2 : (⟨s.toArray⟩ : Str).length = s.length := by show s.toArray.size = _; rw [List.size_toArray]
    rw [e2]
  rw [e]
  exact q _ _ _ (Same.refl B) I (.str _)⟩
theorem sl_t {lo hi : Option Int} (c : Cv M N sc X) : Slc M X (.tuple ds) lo hi (.tuple (cut ds lo hi)) := ⟨_, sl_tupA, fun B F σ H ρ u1 I p1 Q q => by
  cases p1 with
  | tup sq al =>
    rename_i a vs
    have hl := dpa_len al
    have hc : DqAll M.K B (cutV vs lo hi) (cut ds lo hi) := by
      unfold cutV cut
      rw [hl]
      exact dpa_take _ (dpa_drop _ al)
    refine ⟨_, _, rfl, by rw [c.eK]; exact Evl.ex_t I.bh sq, fun hz => ?_, fun hz p hp => ?_⟩
    · have e : cut ds lo hi = ds := by
        unfold cut
        rw [← hl, hz.1, hz.2, List.drop_zero, hl, Nat.sub_zero, List.take_length]
      rw [e] at q
      exact q _ _ _ (Same.refl B) I (.tup sq al)
    · obtain ⟨t1, I2⟩ := I.new (o := .tup _) hp
      exact q _ _ _ t1 I2 (.tup (.inl (.inl upd_same)) (dpa_mono t1 hc))⟩
theorem sl_l {lo hi : Option Int} (c : Cv M N sc X) : Slc M X (.list ds) lo hi (.list (cut ds lo hi)) := ⟨_, sl_list, fun B F σ H ρ u1 I p1 Q q => by
  cases p1 with
  | lst sq al =>
    rename_i a vs
    have hl := dpa_len al
    have hc : DqAll M.K B (cutV vs lo hi) (cut ds lo hi) := by
      unfold cutV cut
      rw [hl]
      exact dpa_take _ (dpa_drop _ al)
    refine ⟨_, _, rfl, SqL.of (I.bh _ _ sq), fun p hp => ?_⟩
    obtain ⟨t1, I2⟩ := I.new (o := .lst _) hp
    exact q _ _ _ t1 I2 (.lst upd_same (dpa_mono t1 hc))⟩
theorem Slc.eq {lo hi : Option Int} (h : Slc M X d1 lo hi d) (q : d = d') : Slc M X d1 lo hi d' := q ▸ h
theorem cut_to {α : Type} (xs : List α) (h : 0 ≤ n) : cut xs none (some n) = xs.take n.toNat := by
  obtain ⟨q, rfl⟩ := Int.eq_ofNat_of_zero_le h
  unfold cut
  rw [HT.sIx_none, HT.sIx_nat, List.drop_zero, Nat.sub_zero, Int.toNat_natCast]
  by_cases hq : q ≤ xs.length
  · rw [Nat.min_eq_left hq]
  · rw [Nat.min_eq_right (by omega), List.take_length, List.take_of_length_le (by omega)]
theorem cut_from {α : Type} (xs : List α) (h : 0 ≤ n) : cut xs (some n) none = xs.drop n.toNat := by
  obtain ⟨q, rfl⟩ := Int.eq_ofNat_of_zero_le h
  unfold cut
  rw [HT.sIx_none, HT.sIx_nat, Int.toNat_natCast]
  by_cases hq : q ≤ xs.length
  · rw [Nat.min_eq_left hq]
    exact List.take_of_length_le (by rw [List.length_drop]; omega)
  · rw [Nat.min_eq_right (by omega), List.drop_of_length_le (Nat.le_refl _), List.drop_of_length_le (by omega), List.take_nil]
theorem cut_init {α : Type} (xs : List α) : cut xs none (some (-1)) = xs.dropLast := by
  unfold cut
  rw [HT.sIx_none, List.drop_zero, Nat.sub_zero]
  have e : HT.sIx xs.length xs.length (some (-1)) = xs.length - 1 := by
    show (if (-1 : Int) < 0 then (-1 + (xs.length : Int)).toNat else min (-1 : Int).toNat xs.length) = _
    rw [if_pos (show (-1 : Int) < 0 by decide)]
    omega
  rw [e, List.dropLast_eq_take]
theorem cut_map {α β : Type} (f : α → β) (xs : List α) (lo hi : Option Int) : cut (xs.map f) lo hi = (cut xs lo hi).map f := by
  unfold cut
  rw [List.length_map, ← List.map_drop, ← List.map_take]
theorem cut_len {α : Type} (xs : List α) (lo hi : Option Int) : (cut xs lo hi).length ≤ xs.length := by
  unfold cut
  rw [List.length_take, List.length_drop]
  omega
/-! walked texts -/
theorem di_str {tg : Expr} (h : DE M X e ρ (S s)) : DI M X tg e ρ (s.map fun q => S [q]) := di_of (pi_str pe_sem) fun B F σ H I Rk r => h B F σ H I _ fun v H1 B1 sm I1 p => by
  cases p
  refine ⟨_, rfl, r _ H1 B1 sm I1 fun B2 F2 H2 σ2 ρ2 s2 I2 => ⟨fun i d hd => ?_, ?_⟩⟩
  · rw [List.getElem?_map] at hd
    cases hq : s[i]? with
    | none => rw [hq] at hd; cases hd
    | some q =>
      rw [hq] at hd
      cases hd
      refine ⟨by show i < s.toArray.size; rw [List.size_toArray]; exact (List.getElem?_eq_some_iff.mp hq).1, fun x H3 hy => ?_⟩
      obtain ⟨rfl, c, hc, rfl⟩ := hy
      have e : c = q := by
        have hc' : s.toArray[i]? = some c := hc
        rw [List.getElem?_toArray, hq] at hc'
        exact (Option.some.inj hc').symm
      subst e
      exact ⟨B2, Same.refl B2, I2, .str _⟩
  · show s.toArray.size ≤ _
    rw [List.size_toArray, List.length_map]
    exact Nat.le_refl _
/-! methods of texts -/
def Mt (M : Md) (X : Cx) (id : String) (d0 : PyData) (ds : List PyData) (d : PyData) : Prop := ∃ r, MtR X id r ∧ ∀ B F σ H ρ v vs, EnvB M.K B F H σ ρ → Dq M.K B v d0 → DqAll M.K B vs ds → ∀ Q : VK, (∀ v H' B', Same B B' → EnvB M.K B' F H' σ ρ → Dq M.K B' v d → Q v H') → r v vs H Q
theorem de_m1 {id : String} {name y : Str} (slot : Slot "str" name id) (ty : typeOf (.builtin id) = pure (.type "method_descriptor")) (ho : DE M X o ρ (.str y)) (he : DE M X e ρ d1) (hm : Mt M X id (.str y) [d1] d)
    (hs : starEach [e] X.env = [(false, eval e X.env)] := by rfl) (hbase : attributeBase o name X.env (eval o X.env) = eval o X.env := by rfl) (hline : (apos.endLine == pos.line) = true := by rfl) : DE M X (.Call (.Attribute o name apos) [e] [] pos) ρ d := by
  obtain ⟨r, hr, hq⟩ := hm
  refine de_of (pe_m1 slot ty hr pe_sem pe_sem hs hbase hline) fun B F σ H I Q q => ho B F σ H I _ fun v H1 B1 s1 I1 p1 => ⟨?_, he B1 F σ H1 I1 _ fun v2 H2 B2 s2 I2 p2 => ?_⟩
  · cases p1
    exact ⟨_, rfl⟩
  · exact hq B2 F σ H2 ρ v [v2] I2 (dp_mono s2 p1) (.cons p2 .nil) Q fun v3 H3 B3 s3 I3 p3 => q v3 H3 B3 ((s1.trans s2).trans s3) I3 p3
theorem de_m0 {id : String} {name y : Str} (slot : Slot "str" name id) (ty : typeOf (.builtin id) = pure (.type "method_descriptor")) (ho : DE M X o ρ (.str y)) (hm : Mt M X id (.str y) [] d)
    (hbase : attributeBase o name X.env (eval o X.env) = eval o X.env := by rfl) (hline : (apos.endLine == pos.line) = true := by rfl) : DE M X (.Call (.Attribute o name apos) [] [] pos) ρ d := by
  obtain ⟨r, hr, hq⟩ := hm
  refine de_of (pe_m0 slot ty hr pe_sem hbase hline) fun B F σ H I Q q => ho B F σ H I _ fun v H1 B1 s1 I1 p1 => ⟨?_, ?_⟩
  · cases p1
    exact ⟨_, rfl⟩
  · exact hq B1 F σ H1 ρ v [] I1 p1 .nil Q fun v3 H3 B3 s3 I3 p3 => q v3 H3 B3 (s1.trans s3) I3 p3
end
end Dl

namespace Dl
open PySem PySem.Spec PyProof.Rows L2

/-! ### slots forgotten -/
inductive SetNo : Nat → List Sl → List Sl → Prop
  | zn {r : List Sl} : SetNo 0 (.no :: r) (.no :: r)
  | zv {d : PyData} {r : List Sl} : SetNo 0 (.v d :: r) (.no :: r)
  | s {i : Nat} {x : Sl} {r r' : List Sl} (h : SetNo i r r') : SetNo (i + 1) (x :: r) (x :: r')
theorem SetNo.eq {i : Nat} {r r' : List Sl} (h : SetNo i r r') : r.set i .no = r' ∧ (∀ s, r[i]? = some s → s = .no ∨ ∃ d, s = .v d) := by
  induction h with
  | zn => exact ⟨rfl, fun s hs => .inl (by simpa using hs.symm)⟩
  | zv => exact ⟨rfl, fun s hs => .inr ⟨_, by simpa using hs.symm⟩⟩
  | s h ih => exact ⟨by rw [List.set_cons_succ, ih.1], fun s hs => ih.2 s (by simpa using hs)⟩
inductive Wip : List Nat → List Sl → List Sl → Prop
  | nil {ρ : List Sl} : Wip [] ρ ρ
  | cons {v : Nat} {vs : List Nat} {ρ ρ1 ρ2 : List Sl} (t : Wip vs ρ ρ1) (h : SetNo v ρ1 ρ2) : Wip (v :: vs) ρ ρ2
theorem wip_out {vs : List Nat} {ρ ρ' : List Sl} (h : Wip vs ρ ρ') : (∀ j, j ∉ vs → ρ'[j]? = ρ[j]?) ∧ ∀ j ∈ vs, ∀ s, ρ[j]? = some s → s = .no ∨ ∃ d, s = .v d := by
  induction h with
  | nil => exact ⟨fun _ _ => rfl, fun j hj => by cases hj⟩
  | cons t h ih =>
    rename_i v vs ρ ρ1 ρ2
    refine ⟨fun j hj => ?_, fun j hj s hs => ?_⟩
    · have h1 : v ≠ j := fun z => hj (by rw [z]; exact List.mem_cons_self)
      rw [← h.eq.1, List.getElem?_set_ne h1]
      exact ih.1 j fun z => hj (List.mem_cons_of_mem _ z)
    · by_cases hv : j ∈ vs
      · exact ih.2 j hv s hs
      · have e : j = v := (List.mem_cons.mp hj).resolve_right hv
        subst e
        exact h.eq.2 s (by rw [ih.1 j hv]; exact hs)
theorem EnvB.wipe {K : PySem.W.Frag} {B F H : Hp} {σ : L2.St} {vs : List Nat} {ρ ρ' : List Sl} (h : Wip vs ρ ρ') (I : EnvB K B F H σ ρ) : EnvB K B F H (L2.wipe σ vs) ρ' := by
  induction h with
  | nil => exact I
  | cons t h ih =>
    rename_i v vs ρ0 ρ1 ρ2
    have I1 := (ih I).setno v (none : Option V)
    rw [h.eq.1] at I1
    exact I1
theorem wipe_get {σ : L2.St} : ∀ {vs : List Nat} {j : Nat}, j ∉ vs → (L2.wipe σ vs)[j]? = σ[j]?
  | [], _, _ => rfl
  | v :: vs, j, h => by
    have h1 : v ≠ j := fun z => h (by rw [z]; exact List.mem_cons_self)
    show ((L2.wipe σ vs).set v none)[j]? = _
    rw [List.getElem?_set_ne h1]
    exact wipe_get fun z => h (List.mem_cons_of_mem _ z)
theorem wipe_in {σ : L2.St} : ∀ {vs : List Nat} {j : Nat}, j ∈ vs → (L2.wipe σ vs)[j]? = if j < σ.length then some none else none
  | v :: vs, j, h => by
    show ((L2.wipe σ vs).set v none)[j]? = _
    by_cases e : v = j
    · subst e
      by_cases hl : v < σ.length
      · rw [List.getElem?_set_self (by rw [wipe_length]; exact hl), if_pos hl]
      · rw [List.getElem?_eq_none (by rw [List.length_set, wipe_length]; omega), if_neg hl]
    · rw [List.getElem?_set_ne e]
      exact wipe_in ((List.mem_cons.mp h).resolve_left fun z => e z.symm)
theorem wipe_idem {σ : L2.St} {vs : List Nat} : L2.wipe (L2.wipe σ vs) vs = L2.wipe σ vs := by
  refine List.ext_getElem? fun j => ?_
  by_cases hj : j ∈ vs
  · rw [wipe_in hj, wipe_in hj, wipe_length]
  · rw [wipe_get hj]
theorem EnvB.unwipe {K : PySem.W.Frag} {B0 F0 H0 B F H : Hp} {σ σ2 : L2.St} {vs : List Nat} {ρ ρ2 : List Sl} (I0 : EnvB K B0 F0 H0 σ ρ) (I : EnvB K B F H σ2 ρ2) (hB : Same B0 B) (hσ : ∀ j, j ∉ vs → σ2[j]? = σ[j]?) (hρ : ∀ j, j ∉ vs → ρ2[j]? = ρ[j]?)
    (hv : ∀ j ∈ vs, ∀ s, ρ[j]? = some s → s = .no ∨ ∃ d, s = .v d) : EnvB K B F H σ ρ := by
  refine ⟨I0.ln, I.bh, I.fh, I.dj, ?_⟩
  obtain ⟨O, h1, h2⟩ := I.own
  obtain ⟨_, _, k2⟩ := I0.own
  refine ⟨O, h1, fun j s hs => ?_⟩
  by_cases hj : j ∈ vs
  · rcases hv j hj s hs with z | ⟨d, rfl⟩
    · exact .inl z
    · rcases k2 j _ hs with z | ⟨x, hx, hh⟩
      · exact .inl z
      · exact .inr ⟨x, hx, dp_mono hB hh⟩
  · rcases h2 j s (by rw [hρ j hj]; exact hs) with z | ⟨x, hx, hh⟩
    · exact .inl z
    · exact .inr ⟨x, by rw [← hσ j hj]; exact hx, hh⟩

/-! ### the inside of a comprehension -/
abbrev W0 : WX := fun _ _ _ _ => False
abbrev inX (X : Cx) (scope : Scope) (s : Shared) (H : Hp) (C : Addr) (cl : List (Str × Addr)) (fp : List Addr) : Cx := X.blk s H scope (compEnvC scope cl C X.env) fp
abbrev inS (scope : Scope) (sc : Sco) : Sco := ⟨relS scope sc.rd, scope⟩
theorem look_map {f : NameKind → Str → Bool} {x : Str} {kd : NameKind} (hk : ∀ n, f kd n = false) : ∀ {l : List (Str × NameKind)}, l.lookup x = some kd → (l.map fun y => if f y.2 y.1 = true then (y.1, NameKind.cell) else (y.1, y.2)).lookup x = some kd
  | [], h => by simp at h
  | (n, q) :: r, h => by
    rw [List.map_cons]
    rw [List.lookup_cons] at h
    cases e : x == n with
    | true =>
      rw [e] at h
      have e1 : q = kd := by simpa using h
      subst e1
      rw [if_neg (by rw [hk]; exact Bool.false_ne_true), List.lookup_cons, e]
    | false =>
      rw [e] at h
      have ih := look_map (f := f) hk (l := r) h
      split
      · rw [List.lookup_cons, e]; exact ih
      · rw [List.lookup_cons, e]; exact ih
theorem relS_lookup {scope sc : Scope} {x : Str} {kd : NameKind} (hk : (kd == .free) = false) (h : scope.names.lookup x = some kd) : (relS scope sc).names.lookup x = some kd :=
  look_map (f := fun k n => k == .free && sc.kind == .function && sc.names.lookup n == some .cell) (fun n => by rw [hk]; rfl) h
section
variable {M : Md} {X : Cx} {W : WX} {N : List Str} {sc : Sco} {scope : Scope} {k : Nat} {ρ ρ' ρ'' ρw : List Sl} {d d1 d2 d3 d' : PyData} {ds es' : List PyData} {e a b c' o elt tg iter : Expr} {es ifs : List Expr} {pos p2 p3 p4 p5 apos : Pos} {x y z : Str} {bb b1 b2 : Bool} {i j l : Nat} {nx : List Sl → Prop} {R : REnds} {own : List (Str × Nat)} {p : Pat}
theorem cn_in (c : Cn M k N sc X W) (hk : scope.kind = .function) (s : Shared) (H : Hp) (C : Addr) (cl : List (Str × Addr)) (fp : List Addr) : Cn M k N (inS scope sc) (inX X scope s H C cl fp) W0 where
  eP := c.eP
  ew := c.ew
  eK := c.eK
  eg := c.eg
  eb := c.eb
  hN := c.hN
  nd := c.nd
  hs := by
    show relS scope X.env.scope = _
    rw [c.hs]
  kind := hk
  loc := fun {x} h => by
    have h0 : (inX X scope s H C cl fp).env.scope = relS scope X.env.scope := rfl
    unfold locB at h
    dsimp only at h
    split at h
    · rename_i q
      have q2 := relS_lookup (sc := X.env.scope) rfl q
      exact ⟨.inl (by rw [h0]; exact q2), .inr (by rw [h0]; exact q2)⟩
    · rename_i q
      have q2 := relS_lookup (sc := X.env.scope) rfl q
      refine ⟨.inr (by rw [h0]; exact q2), .inl ?_⟩
      show (scope.names.lookup x == some .cell) = true
      rw [q]
      rfl
    · cases h
  un := c.un
  calm := c.calm
  room := c.room
  tk := takesN
  po := PassesOwn.never
theorem psets_out {js : List Nat} {ds : List PyData} {ρ ρ' : List Sl} (h : PSets js ds ρ ρ') {j : Nat} (hj : j ∉ js) : ρ'[j]? = ρ[j]? := by
  induction h with
  | nil => rfl
  | cons h t ih =>
    rename_i j0 js0 d0 ds0 r0 r1 r2
    rw [ih fun z => hj (List.mem_cons_of_mem _ z), ← h.eq.1, List.getElem?_set_ne fun z => hj (by rw [z]; exact List.mem_cons_self)]
theorem pset_out {p : Pat} {d : PyData} {ρ ρ' : List Sl} (h : PSet1 p d ρ ρ') {j : Nat} (hj : j ∉ p.slots) : ρ'[j]? = ρ[j]? := by
  cases h with
  | nm h => rw [← h.eq.1, List.getElem?_set_ne fun z => hj (by rw [z]; exact List.mem_cons_self)]
  | tp h => exact psets_out h hj
def semTs (X : Cx) (ifs : List Expr) : TT := fun σ H Q => ∀ (pins : List (Addr × Obj)) (s : Shared), Inv X pins σ H s →
  wpAny (model X.prog X.w) X.A (forIn ifs true fun c r => if r = true then do let ok ← isTrue c X.env (eval c X.env); pure (ForInStep.yield ok) else pure (ForInStep.yield r)) (TP X pins σ Q) X.xe s
def DTs (M : Md) (X : Cx) (ifs : List Expr) (ρ : List Sl) (b : Bool) : Prop := ∀ B F σ H, EnvB M.K B F H σ ρ → ∀ Q : Bool → Hp → Prop, (∀ H' B', Same B B' → EnvB M.K B' F H' σ ρ → Q b H') → semTs X ifs σ H Q
theorem dts_nil : DTs M X [] ρ true := fun B F σ H I Q q pins s iv => pts_nil.run pins s σ H Q iv (q H B (Same.refl B) I)
theorem dts_one (h : DT M X e ρ bb) : DTs M X [e] ρ bb := fun B F σ H I Q q pins s iv => (pts_one pt_sem).run pins s σ H Q iv (h B F σ H I Q q)
theorem filterMap_succ {α : Type} (g : Nat → Option α) (n : Nat) : (List.range (n + 1)).filterMap g = (List.range n).filterMap g ++ (g n).toList := by
  rw [List.range_succ, List.filterMap_append]
  cases h : g n with
  | none => simp [h]
  | some v => simp [h]
/-- what a comprehension's turn needs -/
def Turns (M : Md) (k : Nat) (N : List Str) (sc : Sco) (scope : Scope) (tg elt : Expr) (ifs : List Expr) (p : Pat) (ρw : List Sl) (ds : List PyData) (g : Nat → Option PyData) : Prop :=
  ∀ (i : Nat) (d : PyData), ds[i]? = some d → ∃ ρ1 b, PSet1 p d ρw ρ1 ∧ (∀ X1, Cn M k N (inS scope sc) X1 W0 → DTs M X1 ifs ρ1 b ∧ (b = true → ∃ y, g i = some y ∧ DE M X1 elt ρ1 y)) ∧ (b = false → g i = none)
theorem lc_run {g : Nat → Option PyData} {B F H : Hp} {σ : L2.St} (c : Cn M k N sc X W) (hk : scope.kind = .function) (hi : DI M X tg iter ρ ds) (hown : ∀ j ∈ p.slots, j ∈ own.map (·.2)) (hw : Wip (own.map (·.2)) ρ ρw) (h : Turns M k N sc scope tg elt ifs p ρw ds g) (hl : ds.length ≤ 10000000) (I : EnvB M.K B F H σ ρ) {Q : VK}
    (q : ∀ D xs H' B', Same B B' → F D = none → EnvB M.K B' (upd F D (.lst xs)) H' σ ρ → DqAll M.K B' xs ((List.range ds.length).filterMap g) → Q (.ref D) H') :
    tLc (semI X tg iter) (gPat M.K p) (fun σ H Q => ∀ s H0 C cl fp, semTs (inX X scope s H0 C cl fp) ifs σ H Q) (fun σ H Q => ∀ s H0 C cl fp, semE (inX X scope s H0 C cl fp) elt σ H Q) (own.map (·.2)) σ H Q := by
  refine hi B F σ H I _ fun J H1 B1 s1 I1 hy D hD => ?_
  have hFD : F D = none := I1.fh.free hD
  refine ⟨fun i m H' => m = ds.length - i ∧ i ≤ ds.length ∧ ∃ B' acc, Same B1 B' ∧ EnvB M.K B' (upd F D (.lst acc)) H' σ ρ ∧ DqAll M.K B' acc ((List.range i).filterMap g),
    ⟨ds.length, by simp, Nat.zero_le _, B1, [], Same.refl B1, I1.lay hD, .nil⟩, ?_⟩
  rintro i m H' ⟨rfl, hi', B', acc, s', I', al⟩
  obtain ⟨hgo, hst⟩ := hy B' _ H' σ ρ s' I'
  by_cases hlt : i < ds.length
  · obtain ⟨go, yl⟩ := hgo i ds[i] (List.getElem?_eq_getElem hlt)
    obtain ⟨ρ1, b, hp, hin, hno⟩ := h i ds[i] (List.getElem?_eq_getElem hlt)
    refine .inr ⟨go, fun H2 => ∃ B2 acc2, Same B1 B2 ∧ EnvB M.K B2 (upd F D (.lst acc2)) H2 σ ρ ∧ DqAll M.K B2 acc2 ((List.range (i + 1)).filterMap g), fun H2 hN => ⟨ds.length - (i + 1), by omega, rfl, hlt, hN⟩, fun x H3 hy3 => ?_⟩
    obtain ⟨B3, s3, I3, p3⟩ := yl x H3 hy3
    refine gPat_run hp (I3.wipe hw) p3 fun σ4 I4 hw4 => ?_
    have hwi := hw4 (own.map (·.2)) hown
    rw [wipe_idem] at hwi
    refine ⟨hwi, fun s0 H0 C cl fp => ?_⟩
    have hc := hin _ (cn_in c hk s0 H0 C cl fp)
    have out : ∀ {B5 H5 : Hp} {acc5 : List V}, Same B3 B5 → EnvB M.K B5 (upd F D (.lst acc5)) H5 σ4 ρ1 → EnvB M.K B5 (upd F D (.lst acc5)) H5 σ ρ := fun {B5 H5 acc5} t I5 => by
      refine I1.unwipe (vs := own.map (·.2)) I5 ((s'.trans s3).trans t) (fun j hj => ?_) (fun j hj => ?_) (wip_out hw).2
      · have e1 : (L2.wipe σ4 (own.map (·.2)))[j]? = (L2.wipe σ (own.map (·.2)))[j]? := by rw [hwi]
        rw [wipe_get hj, wipe_get hj] at e1
        exact e1
      · rw [← (wip_out hw).1 j hj]
        exact pset_out hp fun z => hj (hown j z)
    refine hc.1 B3 _ σ4 H3 I4 _ fun H5 B5 s5 I5 => ?_
    cases b with
    | false =>
      rw [if_neg Bool.false_ne_true]
      refine ⟨B5, acc, (s'.trans s3).trans s5, out s5 I5, ?_⟩
      rw [filterMap_succ, hno rfl]
      exact dpa_mono (s3.trans s5) (by simpa using al)
    | true =>
      rw [if_pos rfl]
      intro s0 H0 C cl fp
      obtain ⟨y, hy, he⟩ := (hin _ (cn_in c hk s0 H0 C cl fp)).2 rfl
      refine he B5 _ σ4 H5 I5 _ fun v H6 B6 s6 I6 p6 => ?_
      have hD6 : H6 D = some (.lst acc) := I6.fh D _ upd_same
      refine ⟨acc, hD6, ?_, B6, acc ++ [v], ((s'.trans s3).trans s5).trans s6, ?_, ?_⟩
      · have h1 := dpa_len al
        have h2 : ((List.range i).filterMap g).length ≤ i := by
          have := List.length_filterMap_le g (List.range i)
          rw [List.length_range] at this
          exact this
        have h3 : sizeLine = 16777216 := sizeLine_eq
        omega
      · have I7 := (out (s5.trans s6) I6).relay (o' := .lst (acc ++ [v])) upd_same
        rw [upd_upd] at I7
        exact I7
      · rw [filterMap_succ, hy]
        exact dpa_app (dpa_mono ((s3.trans s5).trans s6) al) (.cons p6 .nil)
  · have e : i = ds.length := by omega
    subst e
    exact .inl ⟨hst, q D acc H' B' (s1.trans s') hFD I' al⟩
/-- a list comprehension: as a value, and stored to a local name on its own line -/
structure DL (M : Md) (N : List Str) (sc : Sco) (X : Cx) (W : WX) (e : Expr) (ρ : List Sl) (ds : List PyData) : Prop where
  dn : DN M X e ρ ds
  sv : ∀ {i : Nat} {y : Str} {p2 pos : Pos} {ρ' : List Sl} {nx : List Sl → Prop} {R : REnds}, Get i y N → sc.rd.names.lookup y = some .local → swapsWith e (some (.Name y p2)) pos.line X.env = pure true → SetAt i (.v (.list ds)) ρ ρ' → nx ρ' → DS M X W (.Assign [.Name y p2] e pos) ρ nx R
  so : ∀ {i : Nat} {y : Str} {p2 pos : Pos} {ρ' : List Sl} {nx : List Sl → Prop} {R : REnds}, Get i y N → sc.rd.names.lookup y = some .local → swapsWith e (some (.Name y p2)) pos.line X.env = pure true → SetAt i (.ol ds) ρ ρ' → nx ρ' → DS M X W (.Assign [.Name y p2] e pos) ρ nx R
theorem DL.de (h : DL M N sc X W e ρ ds) : DE M X e ρ (.list ds) := h.dn.de
theorem DL.eq (h : DL M N sc X W e ρ ds) (q : ds = es') : DL M N sc X W e ρ es' := q ▸ h
theorem dl_lc {g : Nat → Option PyData} (c : Cn M k N sc X W) (hb : blkC N sc.rd scope own = true) (hi : DI M X tg iter ρ ds) (hp : ∀ X1, Cn M k N (inS scope sc) X1 W0 → PG X1 tg (gPat M.K p)) (hown : ∀ j ∈ p.slots, j ∈ own.map (·.2)) (hw : Wip (own.map (·.2)) ρ ρw)
    (h : Turns M k N sc scope tg elt ifs p ρw ds g) (hl : ds.length ≤ 10000000) (hf : ∀ x, foldedSetIterable iter X.env x = pure x := by intro _; rfl) : DL M N sc X W (.ListComp elt [⟨tg, iter, ifs, 0⟩] scope pos) ρ ((List.range ds.length).filterMap g) := by
  have ok : BlkOk X.N X.env.scope scope own := by rw [c.hN, c.hs]; exact blkOk_by hb
  have hg : ∀ (s : Shared) (H : Hp) (C : Addr) (cl : List (Str × Addr)) (fp : List Addr), PG (inX X scope s H C cl fp) tg (gPat M.K p) := fun s H C cl fp => hp _ (cn_in c ok.kind s H C cl fp)
  have ht : ∀ (s : Shared) (H : Hp) (C : Addr) (cl : List (Str × Addr)) (fp : List Addr), PTs (inX X scope s H C cl fp) ifs (fun σ H Q => ∀ s H0 C cl fp, semTs (inX X scope s H0 C cl fp) ifs σ H Q) := fun s H C cl fp => ⟨fun pins s0 σ H0 Q I q => q s H C cl fp pins s0 I⟩
  have he : ∀ (s : Shared) (H : Hp) (C : Addr) (cl : List (Str × Addr)) (fp : List Addr), PE (inX X scope s H C cl fp) elt (fun σ H Q => ∀ s H0 C cl fp, semE (inX X scope s H0 C cl fp) elt σ H Q) := fun s H C cl fp => ⟨fun pins s0 σ H0 Q I q => q s H C cl fp pins s0 I⟩
  refine ⟨?_, fun hi' hy hsw hr hn => ?_, fun hi' hy hsw hr hn => ?_⟩
  · exact dn_of (pe_lc c.calm (by rw [c.hN]; exact c.nd) pi_sem ok hg ht he hf) fun B F σ H I Q q => lc_run c ok.kind hi hown hw h hl I q
  · refine ds_of (ps_setLc c.calm (by rw [c.hN]; exact c.nd) (by rw [c.hN]; exact hi'.at) (by rw [c.hs]; exact hy) hsw pi_sem ok hg ht he hf) fun B F σ H I E f => lc_run c ok.kind hi hown hw h hl I fun D xs H' B' s hF I' al => ?_
    obtain ⟨s2, I2⟩ := I'.share hF
    refine f.nx _ _ H' _ hn (s.trans s2) ?_
    rw [← hr.eq.1]
    exact I2.setv _ hr.eq.2 (.lst upd_same (dpa_mono s2 al))
  · refine ds_of (ps_setLc c.calm (by rw [c.hN]; exact c.nd) (by rw [c.hN]; exact hi'.at) (by rw [c.hs]; exact hy) hsw pi_sem ok hg ht he hf) fun B F σ H I E f => lc_run c ok.kind hi hown hw h hl I fun D xs H' B' s hF I' al => ?_
    refine f.nx _ _ H' _ hn s ?_
    rw [← hr.eq.1]
    exact I'.setol hF al _ hr.eq.2
/-- over typed items, with a test -/
theorem filterMap_range {α β : Type} (f : α → Option β) : ∀ (xs : List α), (List.range xs.length).filterMap (fun i => (xs[i]?).bind f) = xs.filterMap f := fun xs => by
  induction xs with
  | nil => rfl
  | cons x r ih =>
    rw [List.length_cons, List.range_succ_eq_map, List.filterMap_cons, List.filterMap_map, List.filterMap_cons]
    have e : ((fun i => ((x :: r)[i]?).bind f) ∘ Nat.succ) = fun i => (r[i]?).bind f := rfl
    rw [e, ih]
    rfl
theorem filterMap_ite {α β : Type} (t : α → Bool) (f : α → β) (xs : List α) : xs.filterMap (fun a => if t a = true then some (f a) else none) = (xs.filter t).map f := by
  induction xs with
  | nil => rfl
  | cons x r ih =>
    rw [List.filterMap_cons, List.filter_cons]
    cases h : t x with
    | true => simp [ih]
    | false => simp [ih]
theorem dl_lcT {α : Type} {xs : List α} {enc f : α → PyData} {t : α → Bool} (c : Cn M k N sc X W) (hb : blkC N sc.rd scope own = true) (hi : DI M X tg iter ρ (xs.map enc)) (hp : ∀ X1, Cn M k N (inS scope sc) X1 W0 → PG X1 tg (gPat M.K p)) (hown : ∀ j ∈ p.slots, j ∈ own.map (·.2)) (hw : Wip (own.map (·.2)) ρ ρw)
    (h : ∀ a ∈ xs, ∃ ρ1, PSet1 p (enc a) ρw ρ1 ∧ ∀ X1, Cn M k N (inS scope sc) X1 W0 → DTs M X1 ifs ρ1 (t a) ∧ (t a = true → DE M X1 elt ρ1 (f a))) (hl : xs.length ≤ 10000000) (hf : ∀ x, foldedSetIterable iter X.env x = pure x := by intro _; rfl) :
    DL M N sc X W (.ListComp elt [⟨tg, iter, ifs, 0⟩] scope pos) ρ ((xs.filter t).map f) := by
  have e : (List.range (xs.map enc).length).filterMap (fun i => (xs[i]?).bind fun a => if t a = true then some (f a) else none) = (xs.filter t).map f := by
    rw [List.length_map, filterMap_range, filterMap_ite]
  rw [← e]
  refine dl_lc c hb hi hp hown hw (fun i d hd => ?_) (by rw [List.length_map]; exact hl) hf
  rw [List.getElem?_map] at hd
  cases hq : xs[i]? with
  | none => rw [hq] at hd; cases hd
  | some a =>
    rw [hq] at hd
    cases hd
    obtain ⟨ρ1, h1, h2⟩ := h a (List.mem_of_getElem? hq)
    refine ⟨ρ1, t a, h1, fun X1 c1 => ⟨(h2 X1 c1).1, fun z => ⟨f a, ?_, (h2 X1 c1).2 z⟩⟩, fun z => ?_⟩
    · show (if t a = true then some (f a) else none) = _
      rw [if_pos z]
    · show (if t a = true then some (f a) else none) = _
      rw [if_neg (by rw [z]; exact Bool.false_ne_true)]
theorem dl_lcM {α : Type} {xs : List α} {enc f : α → PyData} (c : Cn M k N sc X W) (hb : blkC N sc.rd scope own = true) (hi : DI M X tg iter ρ (xs.map enc)) (hp : ∀ X1, Cn M k N (inS scope sc) X1 W0 → PG X1 tg (gPat M.K p)) (hown : ∀ j ∈ p.slots, j ∈ own.map (·.2)) (hw : Wip (own.map (·.2)) ρ ρw)
    (h : ∀ a ∈ xs, ∃ ρ1, PSet1 p (enc a) ρw ρ1 ∧ ∀ X1, Cn M k N (inS scope sc) X1 W0 → DE M X1 elt ρ1 (f a)) (hl : xs.length ≤ 10000000) (hf : ∀ x, foldedSetIterable iter X.env x = pure x := by intro _; rfl) :
    DL M N sc X W (.ListComp elt [⟨tg, iter, [], 0⟩] scope pos) ρ (xs.map f) := by
  have e : (xs.filter fun _ => true).map f = xs.map f := by rw [List.filter_eq_self.mpr fun _ _ => rfl]
  rw [← e]
  exact dl_lcT c hb hi hp hown hw (fun a ha => by
    obtain ⟨ρ1, h1, h2⟩ := h a ha
    exact ⟨ρ1, h1, fun X1 c1 => ⟨dts_nil, fun _ => h2 X1 c1⟩⟩) hl hf
/-- y = [..], y a local -/
theorem ds_setL (c : Cn M k N sc X W) (hi : Get i y N) (h : DL M N sc X W (.ListComp elt [⟨tg, iter, ifs, 0⟩] scope p2) ρ ds) (hr : SetAt i (.v (.list ds)) ρ ρ') (hn : nx ρ') (hy : (sc.rd.names.lookup y == some .local && (p3.line == p2.line) && !(scope.names.any fun (n, k) => n == y && (k == .local || k == .cell))) = true := by decide +kernel) :
    DS M X W (.Assign [.Name y p3] (.ListComp elt [⟨tg, iter, ifs, 0⟩] scope p2) pos) ρ nx R := by
  rw [Bool.and_eq_true, Bool.and_eq_true, beq_iff_eq, Bool.not_eq_true'] at hy
  exact h.sv hi hy.1.1 (sw_true (by rw [c.hs]; exact c.kind) (by rw [c.hs]; exact hy.1.1) hy.1.2 hy.2) hr hn
theorem ds_setLN (c : Cn M k N sc X W) (hi : Get i y N) (h : DL M N sc X W (.ListComp elt [⟨tg, iter, ifs, 0⟩] scope p2) ρ ds) (hr : SetAt i (.ol ds) ρ ρ') (hn : nx ρ') (hy : (sc.rd.names.lookup y == some .local && (p3.line == p2.line) && !(scope.names.any fun (n, k) => n == y && (k == .local || k == .cell))) = true := by decide +kernel) :
    DS M X W (.Assign [.Name y p3] (.ListComp elt [⟨tg, iter, ifs, 0⟩] scope p2) pos) ρ nx R := by
  rw [Bool.and_eq_true, Bool.and_eq_true, beq_iff_eq, Bool.not_eq_true'] at hy
  exact h.so hi hy.1.1 (sw_true (by rw [c.hs]; exact c.kind) (by rw [c.hs]; exact hy.1.1) hy.1.2 hy.2) hr hn
/-- y = [..], y a cell -/
theorem sw_false {l : Nat} (c : Cv M N sc X) (hy : (sc.rd.names.lookup y == some .local) = false) : swapsWith (.ListComp elt [⟨tg, iter, ifs, 0⟩] scope p2) (some (.Name y p3)) l X.env = pure false := by
  have ky : (X.env.kindOf y == some .local) = false := by
    show (X.env.scope.names.lookup y == some .local) = false
    rw [c.hs]
    exact hy
  unfold swapsWith
  simp only [ky, Bool.and_false, Bool.false_and]
theorem ds_setC (c : Cn M k N sc X W) (hi : Get i y N) (h : DL M N sc X W (.ListComp elt [⟨tg, iter, ifs, 0⟩] scope p2) ρ ds) (hr : SetAt i (.v (.list ds)) ρ ρ') (hn : nx ρ') (hy : (sc.rd.names.lookup y == some .local) = false := by decide +kernel) (hl : locB sc y = true := by decide +kernel) :
    DS M X W (.Assign [.Name y p3] (.ListComp elt [⟨tg, iter, ifs, 0⟩] scope p2) pos) ρ nx R := ds_set c.toCv hi h.de hr hn (sw_false c.toCv hy) hl
/-! ### lists grown -/
theorem tyV_lst {K : PySem.W.Frag} {H : Hp} {a : Addr} {xs : List V} (h : H a = some (.lst xs)) : tyV K "list" (.ref a) H := .inl ⟨rfl, xs, SqL.of h⟩
theorem EnvB.olst {K : PySem.W.Frag} {B F H : Hp} {σ : L2.St} (I : EnvB K B F H σ ρ) (hi : Get i (.ol ds) ρ) : ∃ l xs, σ[i]? = some (some (.ref l)) ∧ H l = some (.lst xs) ∧ DqAll K B xs ds ∧ ∀ xs' ds', DqAll K B xs' ds' → EnvB K B F (upd H l (.lst xs')) σ (ρ.set i (.ol ds')) := I.mutol hi.at
/-- xs.append(e) -/
theorem ds_append (c : Cv M N sc X) (hi : Get i x N) (hd : Get i (.ol ds) ρ) (he : DE M X e ρ d) (hr : SetAt i (.ol (ds ++ [d])) ρ ρ') (hz : ds.length < 10000000) (hn : nx ρ') (hv : (visB sc x && okN x) = true := by decide +kernel)
    (hfew : ((backTo p3 (starEach [e] X.env)).all (fun x => !x.1) && (backToKw p3 (keywordEach [] X.env)).all (fun x => x.1.isSome) && decide ([e].length + ([] : List Keyword).length + (if ([] : List Keyword).isEmpty then 0 else 1) < 30)) = true := by rfl)
    (hline : (apos.endLine == p3.line) = true := by rfl) (hs : starEach (e :: []) X.env = (false, eval e X.env) :: starEach [] X.env := by rfl) : DS M X W (.Expr (.Call (.Attribute (.Name x p2) "append" apos) [e] [] p3) pos) ρ nx R := by
  rw [Bool.and_eq_true] at hv
  refine ds_of (ps_expr (pe_bm PySem.F.plainAttrs_list PySem.F.slot_list_append PySem.F.type_list_append mt_append (pe_var (i := i) (by rw [c.hN]; exact hi.at) (c.vis hv.1) (okN1 hv.2) (okN2 hv.2)) (pa_cons pe_sem pa_nil hs) rfl hfew hline hs)) fun B F σ H I E f => ?_
  obtain ⟨l, xs, hσ, hl, al, _⟩ := EnvB.olst I hd
  refine ⟨.ref l, hσ, tyV_lst hl, he B F σ H I _ fun v H' B' s I' p => ?_⟩
  obtain ⟨l', xs', hσ', hl', al', hm⟩ := EnvB.olst I' hd
  rw [hσ] at hσ'
  cases hσ'
  refine ⟨l, xs', v, rfl, rfl, hl', ?_, f.nx _ _ _ B' hn s ?_⟩
  · have h3 : sizeLine = 16777216 := sizeLine_eq
    rw [dpa_len al']
    omega
  · rw [← hr.eq.1]
    exact hm _ _ (dpa_app al' (.cons p .nil))
/-- xs.extend(e), e a list -/
theorem ds_extend (c : Cv M N sc X) (hi : Get i x N) (hd : Get i (.ol ds) ρ) (he : DE M X e ρ (.list es')) (hr : SetAt i (.ol (ds ++ es')) ρ ρ') (hz : ds.length + es'.length ≤ 10000000) (hn : nx ρ') (hv : (visB sc x && okN x) = true := by decide +kernel)
    (hfew : ((backTo p3 (starEach [e] X.env)).all (fun x => !x.1) && (backToKw p3 (keywordEach [] X.env)).all (fun x => x.1.isSome) && decide ([e].length + ([] : List Keyword).length + (if ([] : List Keyword).isEmpty then 0 else 1) < 30)) = true := by rfl)
    (hline : (apos.endLine == p3.line) = true := by rfl) (hs : starEach (e :: []) X.env = (false, eval e X.env) :: starEach [] X.env := by rfl) : DS M X W (.Expr (.Call (.Attribute (.Name x p2) "extend" apos) [e] [] p3) pos) ρ nx R := by
  rw [Bool.and_eq_true] at hv
  refine ds_of (ps_expr (pe_bm PySem.F.plainAttrs_list PySem.F.slot_list_extend PySem.F.type_list_extend mt_extend (pe_var (i := i) (by rw [c.hN]; exact hi.at) (c.vis hv.1) (okN1 hv.2) (okN2 hv.2)) (pa_cons pe_sem pa_nil hs) rfl hfew hline hs)) fun B F σ H I E f => ?_
  obtain ⟨l, xs, hσ, hl, al, _⟩ := EnvB.olst I hd
  refine ⟨.ref l, hσ, tyV_lst hl, he B F σ H I _ fun v H' B' s I' p => ?_⟩
  obtain ⟨l', xs', hσ', hl', al', hm⟩ := EnvB.olst I' hd
  rw [hσ] at hσ'
  cases hσ'
  cases p with
  | lst sq t =>
    refine ⟨l, _, xs', _, rfl, rfl, hl', I'.bh _ _ sq, ?_, f.nx _ _ _ B' hn s ?_⟩
    · have h3 : sizeLine = 16777216 := sizeLine_eq
      rw [dpa_len al', dpa_len t]
      omega
    · rw [← hr.eq.1]
      exact hm _ _ (dpa_app al' t)
theorem de_tupleO {q : Pos} (c : Cv M N sc X) (hm : M.mg "tuple" = none) (hi : Get i x N) (hd : Get i (.ol ds) ρ) (hv : (visB sc x && okN x) = true := by decide +kernel) (hg : glB sc "tuple" = true := by decide +kernel) : DE M X (.Call (.Name "tuple" q) [.Name x p2] [] pos) ρ (.tuple ds) := by
  rw [Bool.and_eq_true] at hv
  refine de_of (pe_callTy call_tuple_of (c.gl hg) (by rw [c.eg]; exact hm) boot_tuple (pa_cons (pe_var (i := i) (by rw [c.hN]; exact hi.at) (c.vis hv.1) (okN1 hv.2) (okN2 hv.2)) pa_nil)) fun B F σ H I Q k => ?_
  obtain ⟨l, xs, h1, h2, h3, _⟩ := EnvB.olst I hd
  refine ⟨.ref l, h1, l, xs, rfl, .inl ⟨SqL.of h2, fun a ha => ?_⟩⟩
  obtain ⟨s2, I2⟩ := I.new (o := .tup xs) ha
  exact k _ _ _ s2 I2 (.tup (.inl (.inl upd_same)) (dpa_mono s2 h3))
theorem de_lenO {q : Pos} (c : Cv M N sc X) (hm : M.mg "len" = none) (hi : Get i x N) (hd : Get i (.ol ds) ρ) (hv : (visB sc x && okN x) = true := by decide +kernel) (hg : glB sc "len" = true := by decide +kernel) : DE M X (.Call (.Name "len" q) [.Name x p2] [] pos) ρ (.int ds.length) := by
  rw [Bool.and_eq_true] at hv
  refine de_of (pe_callB call_len_seq (c.gl hg) (by rw [c.eg]; exact hm) PySem.boot_len (pa_cons (pe_var (i := i) (by rw [c.hN]; exact hi.at) (c.vis hv.1) (okN1 hv.2) (okN2 hv.2)) pa_nil)) fun B F σ H I Q k => ?_
  obtain ⟨l, xs, h1, h2, h3, _⟩ := EnvB.olst I hd
  refine ⟨.ref l, h1, l, xs, rfl, .inl (SqL.of h2), ?_⟩
  rw [dpa_len h3]
  exact k _ _ _ (Same.refl B) I (.int _)
theorem de_ixO {n : Int} (c : Cv M N sc X) (hi : Get i x N) (hd : Get i (.ol ds) ρ) (hb : DE M X b ρ (.int n)) (h : atI ds n = some d) (hv : (visB sc x && okN x) = true := by decide +kernel) (hs : PlainIx b := by intro _ _; rfl) : DE M X (.Subscript (.Name x p2) b pos) ρ d := by
  rw [Bool.and_eq_true] at hv
  refine de_of (pe_ix ix_list (pe_var (i := i) (by rw [c.hN]; exact hi.at) (c.vis hv.1) (okN1 hv.2) (okN2 hv.2)) pe_sem hs) fun B F σ H I Q k => ?_
  obtain ⟨l, xs, h1, h2, h3, _⟩ := EnvB.olst I hd
  refine ⟨.ref l, h1, hb B F σ H I _ fun v H' B' s I' p => ?_⟩
  cases p
  obtain ⟨l', xs', h1', h2', h3', _⟩ := EnvB.olst I' hd
  rw [h1] at h1'
  cases h1'
  obtain ⟨w, hw, hdw⟩ := atI_dp h3' h
  exact ⟨l, xs', n, w, rfl, rfl, SqL.of h2', hw, k _ _ _ s I' hdw⟩
end
end Dl

namespace Dl
open PySem PySem.Spec PyProof.Rows L2

/-! ### order of texts -/
theorem perm_sorted_eq {α : Type} {r : α → α → Prop} (as : ∀ a b, r a b → r b a → a = b) : ∀ {l l' : List α}, l.Perm l' → l.Pairwise r → l'.Pairwise r → l = l'
  | [], l', hp, _, _ => (List.nil_perm.mp hp).symm
  | a :: l, [], hp, _, _ => by have := hp.length_eq; simp at this
  | a :: l, b :: l', hp, h1, h2 => by
    have ha : a ∈ b :: l' := hp.mem_iff.mp List.mem_cons_self
    have hb : b ∈ a :: l := hp.mem_iff.mpr List.mem_cons_self
    rw [List.pairwise_cons] at h1 h2
    have e : a = b := by
      rcases List.mem_cons.mp ha with z | z
      · exact z
      · rcases List.mem_cons.mp hb with w | w
        · exact w.symm
        · exact as a b (h1.1 b w) (h2.1 a z)
    subst e
    rw [perm_sorted_eq as (List.Perm.cons_inv hp) h1.2 h2.2]
abbrev Sg := List Nat
def leS (a b : Sg) : Bool := !decide (b < a)
theorem leS_total (a b : Sg) : (leS a b || leS b a) = true := by
  unfold leS
  by_cases h : b < a
  · have h' : ¬ a < b := fun z => List.lt_irrefl a (List.lt_trans z h)
    simp [h, h']
  · simp [h]
theorem leS_trans (a b c : Sg) (h1 : leS a b = true) (h2 : leS b c = true) : leS a c = true := by
  unfold leS at *
  simp only [Bool.not_eq_true', decide_eq_false_iff_not] at *
  intro h
  by_cases z : c < b
  · exact h2 z
  · rcases (List.le_iff_lt_or_eq (l₁ := b) (l₂ := c)).mp z with q | q
    · exact h1 (List.lt_trans q h)
    · subst q
      exact h1 h
theorem leS_anti (a b : Sg) (h1 : leS a b = true) (h2 : leS b a = true) : a = b := by
  unfold leS at *
  simp only [Bool.not_eq_true', decide_eq_false_iff_not] at *
  exact List.le_antisymm h1 h2
/-- the sorted list of texts -/
def sortS (l : List Sg) : List Sg := l.mergeSort leS
theorem sortS_perm (l : List Sg) : (sortS l).Perm l := List.mergeSort_perm l leS
theorem sortS_pw (l : List Sg) : (sortS l).Pairwise (fun a b => leS a b = true) := List.pairwise_mergeSort leS_trans leS_total l
theorem sortS_uniq {l ys : List Sg} (hp : ys.Perm l) (hs : ys.Pairwise (fun a b => leS a b = true)) : ys = sortS l := perm_sorted_eq leS_anti (hp.trans (sortS_perm l).symm) hs (sortS_pw l)
theorem rising_pw : ∀ (r : List Sg) (a : Sg), risingS ⟨a.toArray⟩ (r.map fun t => ⟨t.toArray⟩) = true → (a :: r).Pairwise (fun a b => leS a b = true)
  | [], a, _ => by simp
  | b :: r, a, h => by
    rw [List.map_cons] at h
    have h' := Bool.and_eq_true_iff.mp h
    have ih := rising_pw r b h'.2
    have hab : leS a b = true := by
      have e := h'.1
      rw [ltCps_eq] at e
      exact e
    rw [List.pairwise_cons]
    refine ⟨fun x hx => ?_, ih⟩
    rcases List.mem_cons.mp hx with z | z
    · rw [z]; exact hab
    · exact leS_trans a b x hab ((List.pairwise_cons.mp ih).1 x z)
theorem sortedS_pw (l : List Sg) (h : sortedS (l.map fun t => ⟨t.toArray⟩) = true) : l.Pairwise (fun a b => leS a b = true) := by
  cases l with
  | nil => simp
  | cons a r => exact rising_pw r a h
theorem strs_of (l : List Str) : ∃ ts : List Sg, l = ts.map fun t => (⟨t.toArray⟩ : Str) := ⟨l.map fun x => x.cps.toList, by
  rw [List.map_map]
  have : ((fun t : Sg => (⟨t.toArray⟩ : Str)) ∘ fun x : Str => x.cps.toList) = id := by funext x; simp
  rw [this, List.map_id]⟩
theorem map_str_inj {l l' : List Sg} (h : (l.map fun t => (⟨t.toArray⟩ : Str)).Perm (l'.map fun t => ⟨t.toArray⟩)) : l.Perm l' := by
  have h2 := h.map (fun x : Str => x.cps.toList)
  rw [List.map_map, List.map_map] at h2
  have e : ((fun x : Str => x.cps.toList) ∘ fun t : Sg => (⟨t.toArray⟩ : Str)) = id := by funext x; simp
  rw [e, List.map_id, List.map_id] at h2
  exact h2

/-! ### dicts that a slot owns -/
theorem EnvB.seto {K : PySem.W.Frag} {B F H : Hp} {σ : L2.St} {ρ : List Sl} {p : Addr} {o : HO} {s : Sl} {i : Nat} (I : EnvB K B (upd F p o) H σ ρ) (h : F p = none) (hh : ∀ O : Own, O p = some (i, none) → Hold K B H O i (.ref p) s) (hi : i < ρ.length) :
    EnvB K B F H (σ.set i (some (.ref p))) (ρ.set i s) := by
  have hp : H p = some o := I.fh p _ upd_same
  have hb : B p = none := (I.dj p _ upd_same).1
  have sf : Same F (upd F p o) := same_upd h
  have hi' : i < σ.length := by rw [I.ln]; exact hi
  refine ⟨by rw [List.length_set, List.length_set, I.ln], I.bh, sf.trans I.fh, fun a u e => I.dj a u (sf a u e), ?_⟩
  obtain ⟨O, h1, h2⟩ := I.own
  have hq : ∀ a t, O a = some t → a ≠ p := fun a t e z => by
    have q := (h1 a t e).2.1
    rw [z, upd_same] at q
    cases q
  refine ⟨fun a => if a = p then some (i, none) else O a, fun a t e => ?_, fun j s' hs => ?_⟩
  · by_cases ha : a = p
    · rw [ha]
      exact ⟨hb, h, by rw [hp]; simp⟩
    · dsimp only at e
      rw [if_neg ha] at e
      obtain ⟨q1, q2, q3⟩ := h1 a t e
      rw [upd_ne ha] at q2
      exact ⟨q1, q2, q3⟩
  · by_cases hj : i = j
    · subst hj
      rw [List.getElem?_set_self hi] at hs
      cases hs
      exact .inr ⟨.ref p, by rw [List.getElem?_set_self hi'], hh _ (if_pos rfl)⟩
    · rw [List.getElem?_set_ne hj] at hs ⊢
      rcases h2 j s' hs with z | ⟨x, hx, hh⟩
      · exact .inl z
      · refine .inr ⟨x, hx, hold_mono (Same.refl B) (fun a t e => ⟨?_, rfl⟩) hh⟩
        rw [if_neg (hq a _ e)]
        exact e
def putD {κ : Type} [DecidableEq κ] (kvs : List (κ × PyData)) (k : κ) (v : PyData) : List (κ × PyData) :=
  if (kvs.any fun kv => decide (kv.1 = k)) = true then kvs.map (fun kv => if kv.1 = k then (kv.1, v) else kv) else kvs ++ [(k, v)]
def getD {κ : Type} [DecidableEq κ] (kvs : List (κ × PyData)) (k : κ) : Option PyData := (kvs.find? fun kv => decide (kv.1 = k)).map (·.2)
section
variable {κ : Type} [DecidableEq κ] {K : PySem.W.Frag} {B : Hp} {k : κ} {v : V} {d : PyData}
theorem kdp_any {ys : List (κ × V)} {kvs : List (κ × PyData)} (h : KDp K B ys kvs) : (ys.any fun kv => decide (kv.1 = k)) = (kvs.any fun kv => decide (kv.1 = k)) := by
  induction h with
  | nil => rfl
  | cons r t ih => rw [List.any_cons, List.any_cons, ih, r.1]
theorem kdp_map {ys : List (κ × V)} {kvs : List (κ × PyData)} (h : KDp K B ys kvs) (hv : Dq K B v d) : KDp K B (ys.map fun kv => if kv.1 = k then (kv.1, v) else kv) (kvs.map fun kv => if kv.1 = k then (kv.1, d) else kv) := by
  induction h with
  | nil => exact .nil
  | cons r t ih =>
    rename_i a b as bs
    rw [List.map_cons, List.map_cons]
    refine .cons ?_ ih
    by_cases e : a.1 = k
    · rw [if_pos e, if_pos (by rw [← r.1]; exact e)]
      exact ⟨r.1, hv⟩
    · rw [if_neg e, if_neg (by rw [← r.1]; exact e)]
      exact r
theorem kdp_snoc {ys : List (κ × V)} {kvs : List (κ × PyData)} (h : KDp K B ys kvs) (hv : Dq K B v d) : KDp K B (ys ++ [(k, v)]) (kvs ++ [(k, d)]) := by
  induction h with
  | nil => exact .cons ⟨rfl, hv⟩ .nil
  | cons r t ih => exact .cons r ih
theorem kdp_put {ys : List (κ × V)} {kvs : List (κ × PyData)} (h : KDp K B ys kvs) (hv : Dq K B v d) : KDp K B (putK ys k v) (putD kvs k d) := by
  unfold putK putD
  rw [kdp_any h]
  split
  · exact kdp_map h hv
  · exact kdp_snoc h hv
theorem kdp_get {ys : List (κ × V)} {kvs : List (κ × PyData)} (h : KDp K B ys kvs) : (valV ys k = none ∧ getD kvs k = none) ∨ ∃ v d, valV ys k = some v ∧ getD kvs k = some d ∧ Dq K B v d := by
  induction h with
  | nil => exact .inl ⟨rfl, rfl⟩
  | cons r t ih =>
    rename_i a b as bs
    by_cases e : a.1 = k
    · refine .inr ⟨a.2, b.2, valV_pos e, ?_, r.2⟩
      unfold getD
      rw [List.find?_cons, decide_eq_true (show b.1 = k by rw [← r.1]; exact e)]
      rfl
    · have e' : ¬ b.1 = k := by rw [← r.1]; exact e
      have e2 : getD (b :: bs) k = getD bs k := by
        unfold getD
        rw [List.find?_cons, decide_eq_false e']
      rw [valV_neg e, e2]
      exact ih
theorem kdp_len {ys : List (κ × V)} {kvs : List (κ × PyData)} (h : KDp K B ys kvs) : ys.length = kvs.length := Paired.length h
theorem kdp_keys {ys : List (κ × V)} {kvs : List (κ × PyData)} (h : KDp K B ys kvs) : ys.map (·.1) = kvs.map (·.1) := by
  induction h with
  | nil => rfl
  | cons r t ih => rw [List.map_cons, List.map_cons, ih, r.1]
end
theorem EnvB.odict {K : PySem.W.Frag} {B F H : Hp} {σ : L2.St} {ρ : List Sl} {i : Nat} {kvs : List (Key × PyData)} (I : EnvB K B F H σ ρ) (hg : Get i (.od kvs) ρ) :
    ∃ l ys, σ[i]? = some (some (.ref l)) ∧ H l = some (.dK ys) ∧ KDp K B ys kvs ∧ ∀ ys' kvs', KDp K B ys' kvs' → EnvB K B F (upd H l (.dK ys')) σ (ρ.set i (.od kvs')) := by
  have hi := hg.at
  obtain ⟨O, h1, h2⟩ := I.own
  rcases h2 i _ hi with z | ⟨x, hx, l, xs, e1, e2, e3, e4⟩
  · cases z
  · subst e1
    refine ⟨l, xs, hx, e3, e4, fun xs' ds' hd => ?_⟩
    obtain ⟨q1, q2, q3⟩ := h1 l _ e2
    refine ⟨by rw [List.length_set, I.ln], fun a u e => ?_, fun a u e => ?_, I.dj, O, fun a t e => ?_, fun j s hs => ?_⟩
    · rw [upd_ne (ne_of_none e q1)]; exact I.bh a u e
    · rw [upd_ne (ne_of_none e q2)]; exact I.fh a u e
    · refine ⟨(h1 a t e).1, (h1 a t e).2.1, ?_⟩
      by_cases ha : a = l
      · rw [ha, upd_same]; simp
      · rw [upd_ne ha]; exact (h1 a t e).2.2
    · by_cases hj : i = j
      · subst hj
        have hl : i < ρ.length := (List.getElem?_eq_some_iff.mp hi).1
        rw [List.getElem?_set_self hl] at hs
        cases hs
        exact .inr ⟨.ref l, hx, l, xs', rfl, e2, upd_same, hd⟩
      · rw [List.getElem?_set_ne hj] at hs
        rcases h2 j s hs with z | ⟨x, hx, hh⟩
        · exact .inl z
        · refine .inr ⟨x, hx, hold_mono (Same.refl B) (fun a t e => ⟨e, upd_ne fun z => ?_⟩) hh⟩
          subst z
          rw [e2] at e
          injection e with e
          injection e with e _
          exact hj e
theorem dqa_strs {K : PySem.W.Frag} {B : Hp} : ∀ l : List Sg, DqAll K B (l.map fun t => V.str ⟨t.toArray⟩) (l.map S)
  | [] => .nil
  | _ :: r => .cons (.str _) (dqa_strs r)
/-- data that are keys -/
def keyD : Key → PyData
  | .inl n => .int n
  | .inr x => .str x
theorem keyD_inv {K : PySem.W.Frag} {B : Hp} {v : V} {q : Key} (h : Dq K B v (keyD q)) : v = kV q := by
  cases q with
  | inl n => cases h; rfl
  | inr x => cases h; rfl
section
variable {M : Md} {X : Cx} {W : WX} {N : List Str} {sc : Sco} {scope : Scope} {k : Nat} {ρ ρ' ρ'' ρw : List Sl} {d d1 d2 d3 d' : PyData} {ds es' : List PyData} {e a b c' o elt tg iter : Expr} {es ifs : List Expr} {pos p2 p3 p4 p5 apos : Pos} {x y z : Str} {bb b1 b2 : Bool} {i j l : Nat} {nx : List Sl → Prop} {R : REnds} {kvs : List (Key × PyData)} {q : Key} {m n : Int}
/-- x = {} -/
theorem ds_dnew (c : Cv M N sc X) (hi : Get i x N) (hr : SetAt i (.od []) ρ ρ') (hn : nx ρ') (hl : locB sc x = true := by decide +kernel) : DS M X W (.Assign [.Name x p2] (.Dict [] [] p3) pos) ρ nx R :=
  ds_of (ps_set (by rw [c.hN]; exact c.nd) (by rw [c.hN]; exact hi.at) (c.loc hl).1 pe_dnewK rfl (c.loc hl).2) fun B F σ H I E f => fun p hp => by
    refine f.nx _ _ _ B hn (Same.refl B) ?_
    rw [← hr.eq.1]
    exact EnvB.seto (o := .dK []) (I.lay hp) (I.fh.free hp) (fun O hO => ⟨p, [], rfl, hO, upd_same, .nil⟩) hr.eq.2
/-- x[a] = b -/
theorem ds_dput (c : Cv M N sc X) (hi : Get i x N) (hd : Get i (.od kvs) ρ) (ha : DE M X a ρ (keyD q)) (hb : DE M X b ρ d) (hr : SetAt i (.od (putD kvs q d)) ρ ρ') (hz : kvs.length < 10000000) (hn : nx ρ') (hs : swapsWith b (some (.Subscript (.Name x p2) a p3)) pos.line X.env = pure false := by rfl) (hv : (visB sc x && okN x) = true := by decide +kernel) :
    DS M X W (.Assign [.Subscript (.Name x p2) a p3] b pos) ρ nx R := by
  rw [Bool.and_eq_true] at hv
  refine ds_of (ps_dput (by have := c.un; omega) (pe_var (i := i) (by rw [c.hN]; exact hi.at) (c.vis hv.1) (okN1 hv.2) (okN2 hv.2)) pe_sem pe_sem hs) fun B F σ H I E f => ?_
  refine hb B F σ H I _ fun v H1 B1 s1 I1 p1 => ?_
  obtain ⟨l0, _, h0, _⟩ := EnvB.odict I1 hd
  refine ⟨.ref l0, h0, ha B1 F σ H1 I1 _ fun y H2 B2 s2 I2 p2 => ?_⟩
  obtain ⟨l, ys, hσ, hl, hk, hm⟩ := EnvB.odict I2 hd
  rw [h0] at hσ
  cases hσ
  rw [keyD_inv p2]
  refine ⟨l0, _, rfl, DPut.k hl (by rw [kdp_len hk]; have h3 : sizeLine = 16777216 := sizeLine_eq; omega), f.nx _ _ _ B2 hn (s1.trans s2) ?_⟩
  rw [← hr.eq.1]
  exact hm _ _ (kdp_put hk (dp_mono s2 p1))
/-- x[a] -/
theorem de_dget (c : Cv M N sc X) (hi : Get i x N) (hd : Get i (.od kvs) ρ) (ha : DE M X a ρ (keyD q)) (hq : getD kvs q = some d) (hs : NoSl a := by intro _ _; rfl) (hv : (visB sc x && okN x) = true := by decide +kernel) : DE M X (.Subscript (.Name x p2) a pos) ρ d := by
  rw [Bool.and_eq_true] at hv
  refine de_of (pe_dget (by have := c.un; omega) (pe_var (i := i) (by rw [c.hN]; exact hi.at) (c.vis hv.1) (okN1 hv.2) (okN2 hv.2)) pe_sem hs) fun B F σ H I Q k => ?_
  obtain ⟨l0, _, h0, _⟩ := EnvB.odict I hd
  refine ⟨.ref l0, h0, ha B F σ H I _ fun y H2 B2 s2 I2 p2 => ?_⟩
  obtain ⟨l, ys, hσ, hl, hk, hm⟩ := EnvB.odict I2 hd
  rw [h0] at hσ
  cases hσ
  rw [keyD_inv p2]
  rcases kdp_get (k := q) hk with ⟨_, z⟩ | ⟨v, d0, e1, e2, e3⟩
  · rw [hq] at z; cases z
  · rw [hq] at e2
    cases e2
    exact ⟨l0, v, rfl, by rw [← e1]; exact DGet.k hl, k v _ _ s2 I2 e3⟩
/-- x.get(a, b) -/
theorem de_dget2 (c : Cv M N sc X) (hi : Get i x N) (hd : Get i (.od kvs) ρ) (ha : DE M X a ρ (keyD q)) (hb : DE M X b ρ d) (hm : M2 X (.Name x p2) "get" apos a b pos) (hv : (visB sc x && okN x) = true := by decide +kernel) : DE M X (.Call (.Attribute (.Name x p2) "get" apos) [a, b] [] pos) ρ ((getD kvs q).getD d) := by
  rw [Bool.and_eq_true] at hv
  refine de_of (pe_dget2 (by have := c.un; omega) (pe_var (i := i) (by rw [c.hN]; exact hi.at) (c.vis hv.1) (okN1 hv.2) (okN2 hv.2)) pe_sem pe_sem hm) fun B F σ H I Q k => ?_
  obtain ⟨l0, ys0, h0, hl0, _⟩ := EnvB.odict I hd
  refine ⟨.ref l0, h0, l0, rfl, .inl ⟨_, .inl hl0⟩, ha B F σ H I _ fun y H2 B2 s2 I2 p2 => hb B2 F σ H2 I2 _ fun w H3 B3 s3 I3 p3 => ?_⟩
  obtain ⟨l, ys, hσ, hl, hk, hm⟩ := EnvB.odict I3 hd
  rw [h0] at hσ
  cases hσ
  rw [keyD_inv p2]
  refine ⟨_, DGet.k hl, ?_⟩
  rcases kdp_get (k := q) hk with ⟨z1, z2⟩ | ⟨v, d0, e1, e2, e3⟩
  · rw [z1]
    rw [z2] at k
    exact k w _ _ (s2.trans s3) I3 p3
  · rw [e1]
    rw [e2] at k
    exact k v _ _ (s2.trans s3) I3 e3
/-- sorted(x), x a dict of fewer than 64 texts -/
theorem de_sortedD {α : Type} {ts : List α} {f : α → Sg} {g : α → PyData} (c : Cn M k N sc X W) (hm : M.mg "sorted" = none) (hi : Get i x N) (hd : Get i (.od (ts.map fun t => (Sum.inr ⟨(f t).toArray⟩, g t))) ρ) (hz : ts.length < 64) (hv : (visB sc x && okN x) = true := by decide +kernel) (hg : glB sc "sorted" = true := by decide +kernel) :
    DE M X (.Call (.Name "sorted" p3) [.Name x p2] [] pos) ρ (.list ((sortS (ts.map f)).map S)) := by
  rw [Bool.and_eq_true] at hv
  refine de_of (pe_callB (call_sortedD c.calm) (c.gl hg) (by rw [c.eg]; exact hm) PyProof.Rows.boot_sorted (pa_cons (pe_var (i := i) (by rw [c.hN]; exact hi.at) (c.vis hv.1) (okN1 hv.2) (okN2 hv.2)) pa_nil)) fun B F σ H I Q k => ?_
  obtain ⟨l, ys, hσ, hl, hk, _⟩ := EnvB.odict I hd
  have ek : ys.map (·.1) = ((ts.map f).map fun t => (⟨t.toArray⟩ : Str)).map Sum.inr := by
    rw [kdp_keys hk, List.map_map, List.map_map, List.map_map]
    rfl
  refine ⟨.ref l, hσ, l, ys, (ts.map f).map fun t => (⟨t.toArray⟩ : Str), rfl, .inl hl, ek, by rw [List.length_map, List.length_map]; exact hz, fun zs p hp hs hf => ?_⟩
  obtain ⟨us, rfl⟩ := strs_of zs
  have e : us = sortS (ts.map f) := sortS_uniq (map_str_inj hp) (sortedS_pw us hs)
  subst e
  obtain ⟨s2, I2⟩ := I.new (o := .lst _) hf
  refine k _ _ _ s2 I2 (.lst upd_same ?_)
  rw [List.map_map]
  exact dqa_strs _
/-! ### all, any, sum -/
theorem bools_inv {α : Type} {K : PySem.W.Frag} {B : Hp} {xs : List α} {t : α → Bool} {vs : List V} (h : DqAll K B vs (xs.map fun a => .bool (t a))) : vs = (xs.map t).map V.bl := by
  have e := dqa_map_inv (ev := fun a => V.bl (t a)) (fun a v h => inv_bl B v h) h
  rw [e, List.map_map]
  rfl
theorem cl_all {α : Type} {xs : List α} {t : α → Bool} (hc : X.calm = true) : Cl M X (.builtin "all") [.list (xs.map fun a => .bool (t a))] (.bool (xs.all t)) := ⟨_, cr_all hc, fun B F σ H ρ vs I p Q q => by
  obtain ⟨v, rfl, p1⟩ := inv_all1 p
  cases p1 with
  | lst sq al =>
    have e := bools_inv al
    subst e
    refine ⟨_, xs.map t, rfl, SqL.of (I.bh _ _ sq), ?_⟩
    rw [List.all_map]
    exact q _ _ _ (Same.refl B) I (.bl _)⟩
theorem cl_any {α : Type} {xs : List α} {t : α → Bool} (hc : X.calm = true) : Cl M X (.builtin "any") [.list (xs.map fun a => .bool (t a))] (.bool (xs.any t)) := ⟨_, cr_any hc, fun B F σ H ρ vs I p Q q => by
  obtain ⟨v, rfl, p1⟩ := inv_all1 p
  cases p1 with
  | lst sq al =>
    have e := bools_inv al
    subst e
    refine ⟨_, xs.map t, rfl, SqL.of (I.bh _ _ sq), ?_⟩
    rw [List.any_map]
    exact q _ _ _ (Same.refl B) I (.bl _)⟩
theorem cl_sum {α : Type} {xs : List α} {t : α → Int} (hc : X.calm = true) : Cl M X (.builtin "sum") [.list (xs.map fun a => .int (t a))] (.int (xs.map t).sum) := ⟨_, cr_sum hc, fun B F σ H ρ vs I p Q q => by
  obtain ⟨v, rfl, p1⟩ := inv_all1 p
  cases p1 with
  | lst sq al =>
    have e := dqa_map_inv (ev := fun a => V.int (t a)) (fun a v h => inv_int B v h) al
    have e2 : (xs.map fun a => V.int (t a)) = (xs.map t).map V.int := by rw [List.map_map]; rfl
    rw [e2] at e
    subst e
    exact ⟨_, xs.map t, rfl, SqL.of (I.bh _ _ sq), q _ _ _ (Same.refl B) I (.int _)⟩⟩
/-! ### str(0), str(1), int(sign) -/
theorem cl_strBit (h : m = 0 ∨ m = 1) : Cl M X (.type "str") [.int m] (S [48 + m.toNat]) := ⟨_, call_str_int, fun B F σ H ρ vs I p Q q => by
  obtain ⟨v, rfl, p1⟩ := inv_all1 p
  cases p1
  refine ⟨m, rfl, ?_, ?_⟩
  · rcases h with rfl | rfl <;> decide
  · have e : (PySem.Str.ofString (toString m)) = ⟨[48 + m.toNat].toArray⟩ := by rcases h with rfl | rfl <;> decide +kernel
    rw [e]
    exact q _ _ _ (Same.refl B) I (.str _)⟩
theorem cl_intBool {b : Bool} : Cl M X (.type "int") [.bool b] (.int (if b = true then 1 else 0)) := ⟨_, call_int1, fun B F σ H ρ vs I p Q q => by
  obtain ⟨v, rfl, p1⟩ := inv_all1 p
  cases p1
  exact .inr ⟨b, rfl, q _ _ _ (Same.refl B) I (.int _)⟩⟩
theorem cl_intSign {q : Nat} (h : q = 48 ∨ q = 49) : Cl M X (.type "int") [S [q]] (.int ((q : Int) - 48)) := ⟨_, call_int_str, fun B F σ H ρ vs I p Q k => by
  obtain ⟨v, rfl, p1⟩ := inv_all1 p
  cases p1
  refine ⟨_, (q : Int) - 48, rfl, ?_, (by show 1 ≤ 640; decide), k _ _ _ (Same.refl B) I (.int _)⟩
  rcases h with rfl | rfl <;> decide +kernel⟩
end
end Dl

namespace Dl
open PySem PySem.Spec PyProof.Rows L2

/-! ### isinstance -/
def tyD : PyData → String
  | .none => "NoneType"
  | .bool _ => "bool"
  | .int _ => "int"
  | .str _ => "str"
  | .list _ => "list"
  | .tuple _ => "tuple"
  | .dict _ => "list"
theorem tyx_of {K : PySem.W.Frag} {B H : Hp} {v : V} {d : PyData} (e : Same B H) (p : Dq K B v d) (hO : isOb d = false) : TyX K H v (.type (tyD d)) := by
  cases p with
  | non => exact .base .non
  | bl b => exact .base (.bl b)
  | int i => exact .base (.int i)
  | str y => exact .base (.str y)
  | lst s al => exact .base (.lst (e _ _ s))
  | tup s al =>
    rcases s with (s | ⟨o, s⟩) | ⟨o, its, n, h1, h2, _⟩
    · exact .base (.tup (e _ _ s))
    · exact .fTuple (e _ _ s)
    · exact .kTuple h1 h2
  | scr q s =>
    rcases s with (s | ⟨o, s⟩) | ⟨o, its, n, h1, h2, _⟩
    · exact .base (.lst (e _ _ s))
    · exact .base (.frz (e _ _ s))
    · exact .kList h1 h2
  | obj q s t => subst q; cases hO
  | dft q s z t => subst q; cases hO
  | dct q s z t => subst q; cases hO
  | fdk q s z t => subst q; cases hO
/-- an expression that names a value that is no data: a class -/
def DC (M : Md) (X : Cx) (e : Expr) (ρ : List Sl) (x : V) : Prop := ∀ B F σ H, EnvB M.K B F H σ ρ → ∀ Q : VK, Q x H → semE X e σ H Q
section
variable {M : Md} {X : Cx} {W : WX} {N : List Str} {sc : Sco} {k kf : Nat} {ρ ρ' ρ'' : List Sl} {d d1 d2 d3 : PyData} {ds : List PyData} {e o a b c' : Expr} {es : List Expr} {pos p2 p3 p4 p5 apos : Pos} {x y z : Str} {φ : List PyData → Out → Prop} {nx : List Sl → Prop} {R : REnds} {bb : Bool} {i : Nat}
theorem dc_ty {T : String} (c : Cv M N sc X) (hm : M.mg x = none) (hv : bootBuiltins x = some (.type T)) (hg : (glB sc x && okN x) = true := by decide +kernel) : DC M X (.Name x pos) ρ (.ty T) := fun B F σ H I Q q pins s iv => by
  rw [Bool.and_eq_true] at hg
  exact (pe_bltn (c.gl hg.1) (by rw [c.eg]; exact hm) hv (v := .ty T) rfl (okN3 hg.2) (okN1 hg.2)).run pins s σ H Q iv q
theorem dc_own {C : Addr} (c : Cv M N sc X) (hm : M.mg x = some (.ref C)) (hg : (glB sc x && okN x) = true := by decide +kernel) : DC M X (.Name x pos) ρ (.ref C) := fun B F σ H I Q q pins s iv => by
  rw [Bool.and_eq_true] at hg
  exact (pe_glob (c.gl hg.1) (by rw [c.eg]; exact hm) (v := .ref C) rfl (okN1 hg.2)).run pins s σ H Q iv q
theorem dc_raw {v : V} (c : Cv M N sc X) (i : Nat) (hi : N[i]? = some x) (hd : ρ[i]? = some (.r v)) (hv : (visB sc x && okN x) = true := by decide +kernel) : DC M X (.Name x pos) ρ v := fun B F σ H I Q q pins s iv => by
  rw [Bool.and_eq_true] at hv
  refine (pe_var (i := i) (by rw [c.hN]; exact hi) (c.vis hv.1) (okN1 hv.2) (okN2 hv.2)).run pins s σ H Q iv ?_
  obtain ⟨O, _, h2⟩ := I.own
  rcases h2 i _ hd with z | ⟨u, hu, hh⟩
  · cases z
  · have hh : u = v := hh
    subst hh
    exact ⟨u, hu, q⟩
theorem boot_isinstance : bootBuiltins "isinstance" = some (.builtin "isinstance") := by decide +kernel
/-- isinstance(data, class) -/
theorem de_isi {q : Pos} {v : V} {u : Value} (c : Cv M N sc X) (hm : M.mg "isinstance" = none) (ha : DE M X a ρ d) (hO : isOb d = false) (hb : DC M X b ρ v) (hu : ClsV v u) (hk : PySem.W.kitOne M.K (.type (tyD d)) u = some bb)
    (he : starEach [a, b] X.env = (false, eval a X.env) :: starEach [b] X.env := by rfl) (he2 : starEach [b] X.env = (false, eval b X.env) :: starEach [] X.env := by rfl) (hpl : (backTo pos (starEach [b] X.env)).any (·.1) = false := by rfl) (hg : (glB sc "isinstance" && okN "isinstance") = true := by decide +kernel) : DE M X (.Call (.Name "isinstance" q) [a, b] [] pos) ρ (.bool bb) := by
  rw [Bool.and_eq_true] at hg
  refine de_of (pe_callB call_isi (c.gl hg.1) (by rw [c.eg]; exact hm) boot_isinstance (pa_cons pe_sem (pa_cons pe_sem pa_nil he2) he) (okN3 hg.2) (okN1 hg.2) he hpl) fun B F σ H I Q q => ?_
  refine ha B F σ H I _ fun v1 H1 B1 s1 I1 p1 => hb B1 F σ H1 I1 _ ?_
  exact ⟨v1, v, _, u, bb, rfl, hu, by rw [c.eK]; exact tyx_of I1.bh p1 hO, by rw [c.eK]; exact hk, q _ _ _ s1 I1 (.bl bb)⟩
/-- a tuple of classes -/
def DCs (M : Md) (X : Cx) (es : List Expr) (ρ : List Sl) (vs : List V) : Prop := ∀ B F σ H, EnvB M.K B F H σ ρ → ∀ Q : List V → Hp → Prop, Q vs H → semA X es σ H Q
theorem dcs_nil : DCs M X [] ρ [] := fun B F σ H I Q q pos pins s iv => pa_nil.run pos pins s σ H Q iv q
theorem dcs_cons {v : V} {vs : List V} (h : DC M X e ρ v) (hr : DCs M X es ρ vs) (hs : starEach (e :: es) X.env = (false, eval e X.env) :: starEach es X.env := by rfl) : DCs M X (e :: es) ρ (v :: vs) := fun B F σ H I Q q pos pins s iv =>
  (pa_cons (pe_sem (X := X) (e := e)) (pa_sem (X := X) (es := es)) hs).run pos pins s σ H Q iv (h B F σ H I _ (hr B F σ H I _ q))
theorem de_isiT {q : Pos} {x1} {vs : List V} {us : List Value} (c : Cv M N sc X) (hm : M.mg "isinstance" = none) (ha : DE M X a ρ d) (hO : isOb d = false) (hb : DCs M X es ρ vs) (hl : vs.length ≤ 1000) (hu : Paired ClsV vs us) (hk : PySem.W.kitAny M.K (.type (tyD d)) us = some bb)
    (he : starEach [a, .Tuple es x1 p2] X.env = (false, eval a X.env) :: starEach [.Tuple es x1 p2] X.env := by rfl) (he2 : starEach [.Tuple es x1 p2] X.env = (false, eval (.Tuple es x1 p2) X.env) :: starEach [] X.env := by rfl) (hpl : (backTo pos (starEach [.Tuple es x1 p2] X.env)).any (·.1) = false := by rfl) (hg : (glB sc "isinstance" && okN "isinstance") = true := by decide +kernel) : DE M X (.Call (.Name "isinstance" q) [a, .Tuple es x1 p2] [] pos) ρ (.bool bb) := by
  rw [Bool.and_eq_true] at hg
  refine de_of (pe_callB call_isiT (c.gl hg.1) (by rw [c.eg]; exact hm) boot_isinstance (pa_cons pe_sem (pa_cons (pe_tup pa_sem) pa_nil he2) he) (okN3 hg.2) (okN1 hg.2) he hpl) fun B F σ H I Q q => ?_
  refine ha B F σ H I _ fun v1 H1 B1 s1 I1 p1 => hb B1 F σ H1 I1 _ ?_
  refine ⟨Evl.sz_of (by omega), fun tp htp => ?_⟩
  obtain ⟨s2, I2⟩ := I1.new (o := .tup vs) htp
  exact ⟨v1, tp, vs, _, us, bb, rfl, upd_same, hu, by rw [c.eK]; exact tyx_of I2.bh (dp_mono s2 p1) hO, by rw [c.eK]; exact hk, q _ _ _ (s1.trans s2) I2 (.bl bb)⟩

/-! ### exceptions -/
/-- what an own class of errors (below ValueError) must say -/
structure Exc (M : Md) (x : Str) (C : Addr) (bm : List Value) : Prop where
  mg : M.mg x = some (.ref C)
  ex : PySem.W.excIn M.K C bm "ValueError.__new__" = true
  kp : PySem.W.keepIn M.K (.ref C) = true
  sb : PySem.W.subIn M.K (.ref C) (.type "BaseException") = some true
  ty : PySem.W.typeIn M.K (.ref C) = some (.type "type")
abbrev bmV : List Value := [.type "ValueError", .type "Exception", .type "BaseException", .type "object"]
theorem ds_raise {C : Addr} {m : Str} {j} (c : Cn M k N sc X W) (E : Exc M x C bmV) (h : R.ex C ρ) (hg : (glB sc x && okN x) = true := by decide +kernel) : DS M X W (.Raise (some (.Call (.Name x p2) [.Constant (.str m) j p3] [] p4)) none pos) ρ nx R := by
  rw [Bool.and_eq_true] at hg
  refine ds_of (L2N.ps_raise c.calm c.tk (L2N.pmk_own PySem.F.excBase_ValueError (by rw [c.eK]; exact E.ex) (by rw [c.eg]; exact E.mg) (by rw [c.eK]; exact E.kp) (raises_own (by rw [c.eK]; exact E.sb) (by rw [c.eK]; exact E.ty)) (c.gl hg.1) (okN1 hg.2))) fun B F σ H I E f => ?_
  exact f.ex C ρ σ H B h (Same.refl B) I
/-- a call that may raise: as a statement -/
theorem ds_callX {q : Pos} {C : Addr} (c : Cn M k N sc X W) (G : Fok M kf x φ) (hk : kf ≤ k) (ha : DA M X (e :: es) ρ ds) (hφ : φ ds (.exc C)) (h : R.ex C ρ) (he : starEach (e :: es) X.env = (false, eval e X.env) :: starEach es X.env := by rfl)
    (hpl : (backTo pos (starEach es X.env)).any (·.1) = false := by rfl) (hg : (glB sc x && okN x) = true := by decide +kernel) : DS M X W (.Return (some (.Call (.Name x q) (e :: es) [] pos)) p2) ρ nx R := by
  rw [Bool.and_eq_true] at hg
  obtain ⟨f, fd, ps, F, hm, hkp, hb⟩ := G.ex
  have F1 : FnOk X.prog X.w X.K X.mg X.base (L2N.CX X.prog X.w) kf f fd ps (spX M.K φ) := by rw [c.eP, c.ew, c.eK, c.eg, c.eb]; exact F
  refine ds_of (ps_ret (pe_callS F1 (c.room.mono hk) (c.gl hg.1) (by rw [c.eg]; exact hm) (by rw [c.eK]; exact hkp) (by rw [c.eK]; exact hb) (L2N.passAt c.tk) pa_sem (okN1 hg.2) he hpl)) fun B F σ H I E f => ?_
  refine ha B F σ H I _ fun vs H1 B1 s1 I1 p1 => ?_
  refine ⟨ds, .exc C, B1, rem H1 B1, hφ, p1, I1.bh, rem_same, fun a u => rem_dj, (fun d' hd => by cases hd), fun C' hC H' t1 t2 => ?_⟩
  cases hC
  exact f.ex C ρ σ H' B1 h s1 (I1.back (Same.refl B1) t2 t1 fun a u e => rem_dj e)
theorem EnvB.setr {K : PySem.W.Frag} {B F H : Hp} {σ : L2.St} (I : EnvB K B F H σ ρ) (x : V) (hr : SetAt i (.r x) ρ ρ') : EnvB K B F H (σ.set i (some x)) ρ' := by
  obtain ⟨rfl, hi⟩ := hr.eq
  refine ⟨by rw [List.length_set, List.length_set, I.ln], I.bh, I.fh, I.dj, ?_⟩
  obtain ⟨O, h1, h2⟩ := I.own
  refine ⟨O, h1, fun j s hs => ?_⟩
  by_cases hj : i = j
  · subst hj
    rw [List.getElem?_set_self hi] at hs
    cases hs
    exact .inr ⟨x, by rw [List.getElem?_set_self (by rw [I.ln]; exact hi)], rfl⟩
  · rw [List.getElem?_set_ne hj] at hs ⊢
    exact h2 j s hs
/-- within a suite that holds an error -/
structure Hx (M : Md) (k : Nat) (N : List Str) (sc : Sco) (X : Cx) (a C : Addr) : Prop extends Cv M N sc X where
  room : L2H.RoomH k X.A
  pin : ∃ oe, (a, oe) ∈ X.pn ∧ L2H.Hot1 X.A (a, oe) ∧ L2N.Zn (.ref C) none oe
abbrev Wf : WX := fun _ _ _ _ => False
theorem ds_tryAs {n : Str} {T : Addr} {body suite : List Stmt} {b₀ : Stmt} {np pos' : Pos} (c : Cn M k N sc X W) (tr : Tr X) (hi : Get i n N) (hT : M.mg x = some (.ref T)) (mid : Addr → List Sl → Prop)
    (hb : ∀ X' W', Cn M k N sc X' W' → DB M X' W' body ρ nx { R with ex := mid })
    (hsu : ∀ C ρ', mid C ρ' → ∃ b, PySem.W.exmOne M.K (.ref C) (.ref T) = some b ∧ (b = true → ∀ X' a, Hx M k N sc X' a C → ∃ ρ'', SetAt i (.r (.ref a)) ρ' ρ'' ∧
      DB M X' Wf (b₀ :: suite) ρ'' (fun r => nx (r.set i .no)) { rt := R.rt, bk := fun r => R.bk (r.set i .no), ct := fun r => R.ct (r.set i .no) }) ∧ (b = false → R.ex C ρ'))
    (hln : sc.rd.names.lookup n = some .local := by decide +kernel) (hg : (glB sc x && okN x) = true := by decide +kernel) :
    DS M X W (.Try body [.ExceptHandler (some (.Name x np)) (some n) (b₀ :: suite) pos'] [] [] pos) ρ nx R := by
  rw [Bool.and_eq_true] at hg
  refine ds_of (L2N.ps_try_as (X := X) (tb := fun W' D σ H => ∀ pn xe, L2N.Takes (X.tr pn xe) W' → PassesOwn (model X.prog X.w) X.A X.env xe → semB (X.tr pn xe) body D σ H)
    (ts := fun a cls d D σ H => ∀ oe pn, L2N.Zn cls d oe → (∃ vs, oe.data = .fields vs) → semB (X.suite a ((a, oe) :: pn)) (b₀ :: suite) D σ H)
    tr.1 tr.2 (by rw [c.hN]; exact c.nd) (by rw [c.hN]; exact hi.at) (by show X.env.scope.names.lookup n = _; rw [c.hs]; exact hln) ⟨c.gl hg.1, okN1 hg.2, .inl (by rw [c.eg]; exact hT)⟩ c.tk
    (fun W' pn xe tk po => ⟨fun pins s σ H D I h => h pn xe tk po pins s I⟩) (fun a oe cls d pn hz hf => ⟨fun pins s σ H D I h => h oe pn hz hf pins s I⟩)) fun B F σ H I E f => ?_
  intro pn xe tk po
  have cn : Cn M k N sc (X.tr pn xe) (wAs X.K (.ref T) i (fun a cls d D σ H => ∀ oe pn, L2N.Zn cls d oe → (∃ vs, oe.data = .fields vs) → semB (X.suite a ((a, oe) :: pn)) (b₀ :: suite) D σ H) W E) :=
    { eP := c.eP, ew := c.ew, eK := c.eK, eg := c.eg, eb := c.eb, hN := c.hN, nd := c.nd, hs := c.hs, kind := c.kind, loc := c.loc, un := c.un, calm := c.calm, room := c.room, tk := tk, po := po }
  refine hb _ _ cn B F σ H I E ⟨f.nx, f.rt, fun C ρ' σ' H' B' hm s' I' => ?_, f.bk, f.ct⟩
  obtain ⟨b, e1, h1, h2⟩ := hsu C ρ' hm
  refine ⟨b, by rw [c.eK]; exact e1, fun hb a na oe pn hz hf => ?_, fun hb => f.ex C ρ' σ' H' B' (h2 hb) s' I'⟩
  obtain ⟨vs, hv⟩ := hf
  have hx : Hx M k N sc (X.suite a ((a, oe) :: pn)) a C :=
    { eP := c.eP, ew := c.ew, eK := c.eK, eg := c.eg, eb := c.eb, hN := c.hN, nd := c.nd, hs := c.hs, kind := c.kind, loc := c.loc, un := c.un, room := ⟨c.room.dp, c.room.un⟩, pin := ⟨oe, List.mem_cons_self, ⟨rfl, vs, hv, hz.2.2 vs hv⟩, hz⟩ }
  obtain ⟨ρ'', hr, hd⟩ := h1 hb _ a hx
  refine hd B' F _ H' (I'.setr _ hr) _ ⟨fun r σ2 H2 B2 q t I2 => ?_, fun d r x σ2 H2 B2 q t I2 p => f.rt d r x σ2 H2 B2 q (s'.trans t) I2 p, fun C r σ2 H2 B2 q => q.elim, fun r σ2 H2 B2 q t I2 => ?_, fun r σ2 H2 B2 q t I2 => ?_⟩
  · exact f.nx _ _ H2 B2 q (s'.trans t) (I2.setno i none)
  · exact f.bk _ _ H2 B2 q (s'.trans t) (I2.setno i none)
  · exact f.ct _ _ H2 B2 q (s'.trans t) (I2.setno i none)
/-! ### a def that is asked about the error that is held -/
def FnE (M : Md) (k : Nat) (f : Addr) (fd : FuncData) (p : Str) (ψ : Addr → PyData → Prop) : Prop := ∀ (A : Around) (outer : List Env) (s : Shared) (H B F : Hp) (args : Args) (us : List Value) (Q : VK) (E : XK) (a C : Addr) (oe : Obj) (d : PyData),
  L2H.RoomH k A → L2H.Hot1 A (a, oe) → L2H.PinOk outer H s (a, oe) → Env0 M.P M.w M.K M.mg M.base A outer s H → BindsTo s fd args ([p].zip us) → Vals [V.ref a] us → L2N.Zn (.ref C) none oe → ψ C d → Same B H → Same F H → (∀ a u, F a = some u → B a = none ∧ ∀ xs, u ≠ .tup xs) →
  (∀ v H' B', Same B B' → Same F H' → Same B' H' → (∀ a u, F a = some u → B' a = none ∧ ∀ xs, u ≠ .tup xs) → Dq M.K B' v d → Q v H') → codeAny (model M.P M.w) A (.call (.ref f) args) (CR (L2N.CX M.P M.w) outer M.P M.w H s Q E) s
structure FokE (M : Md) (k : Nat) (x : Str) (ψ : Addr → PyData → Prop) : Prop where
  ex : ∃ f fd p, FnE M k f fd p ψ ∧ M.mg x = some (.ref f) ∧ PySem.W.keepIn M.K (.ref f) = true ∧ Binds M.K fd [p] []
theorem fokE_mk {st : Stmt} {f : Addr} {fd : FuncData} {qual p : Str} {ψ : Addr → PyData → Prop} (F : Fun M.K x qual st f fd) (hm : M.mg x = some (.ref f)) (hb : Binds M.K fd [p] []) (S : FnScope N [p] (defScope st))
    (hbody : ∀ (X : Cx) (a C : Addr) (d : PyData), Hx M k N ⟨defScope st, defScope st⟩ X a C → ψ C d → DB M X Wf (defBody st) (.r (.ref a) :: List.replicate (N.length - 1) .no) (fun _ => d = .none) { rt := fun d' _ => d' = d }) : FokE M (k + 1) x ψ := by
  obtain ⟨oc, od, kV, doc, pm, an, cdv, ct, osl, rfl, lk, hcd⟩ := F.ex
  refine ⟨f, _, p, ?_, hm, F.kp, hb⟩
  intro A outer s H B F' args us Q E a C oe d hr hot pin e0 hbt r hz hψ sB sF dj q
  have kin : M.K.In s.heap := e0.mod.kin.keeps fun b o e => (e0.bs b o e).1
  have nl : s.heap.NoLimit := e0.mod.nolimit.keeps fun b o e => (e0.bs b o e).1
  have hps : 1 ≤ N.length := by have := congrArg List.length S.pre; rw [List.length_take] at this; simp at this; omega
  refine codeAny_call_function hr.depth (kin _ _ lk) rfl S.co S.gen rfl (PySem.W.codeRec_of kin hcd) (hbt _ _ _ _ (wpAny_newFunctionEnv_cells S.kind (fun ⟨y, v⟩ hy => ?_) fun env he s1 x => ?_))
  · exact (S.par y (List.of_mem_zip hy).1).imp id fun c => ⟨c, PySem.W.cellsFrom_some _ _ _ (.inl c)⟩
  · subst he
    refine ⟨nl.keeps x.toInCall.keep, codeAny_func ?_⟩
    have J := L2H.inv_startH (CX := L2N.CX M.P M.w) (E := E) S pin e0 rfl r x
    have hx : Hx M k N ⟨defScope st, defScope st⟩ (L2H.cxH (L2N.CX M.P M.w) M.P M.w M.K M.mg M.base N qual (defScope st) f cdv A outer s H E (a, oe)) a C :=
      { eP := rfl, ew := rfl, eK := rfl, eg := rfl, eb := rfl, hN := rfl, nd := S.nd, hs := rfl, kind := S.kind, loc := fun h => loc_def rfl (fun _ => rfl) h, un := by have := (hr.deeper (envOfC qual (defScope st) s.heap.objs.size f cdv)).un; show _ + 200 < _; simp only [L2H.cxH, cxOf]; omega, room := hr.deeper _, pin := ⟨oe, List.mem_cons_self, hot, hz⟩ }
    have I : EnvB M.K B F' H (L2.start N [V.ref a]) (.r (.ref a) :: List.replicate (N.length - 1) .no) := by
      refine ⟨?_, sB, sF, dj, fun _ => none, (fun a t e => by cases e), fun i s hs => ?_⟩
      · unfold L2.start
        simp only [List.length_append, List.length_map, List.length_replicate, List.length_cons, List.length_nil]
        omega
      · cases i with
        | zero =>
          cases hs
          exact .inr ⟨.ref a, rfl, rfl⟩
        | succ i =>
          rw [List.getElem?_cons_succ, List.getElem?_replicate] at hs
          split at hs
          · cases hs; exact .inl rfl
          · cases hs
    have run := hbody _ a C d hx hψ B F' _ H I { nx := fun _ H' => Q .non H', rt := Q } ⟨fun ρ σ' H' B' z t I' => by subst z; exact q .non H' B' t I'.fh I'.bh I'.dj .non, fun d' ρ v σ' H' B' z t I' pv => by subst z; exact q v H' B' t I'.fh I'.bh I'.dj pv, fun C ρ σ' H' B' z => z.elim, fun ρ σ' H' B' z => z.elim, fun ρ σ' H' B' z => z.elim⟩ [] s1 J
    refine wpAny_mono run (fun fl s' hs => ?_) fun _ _ z => z
    cases fl with
    | ret u =>
      obtain ⟨v, σ', H', J', rv, z⟩ := hs
      exact ⟨v, H', J'.os, J'.bare, J'.base, J'.hok, rv, z⟩
    | next =>
      obtain ⟨σ', H', J', z⟩ := hs
      exact ⟨V.non, H', J'.os, J'.bare, J'.base, J'.hok, rfl, z⟩
    | brk => obtain ⟨_, _, _, z⟩ := hs; exact z.elim
    | cont => obtain ⟨_, _, _, z⟩ := hs; exact z.elim
theorem de_callE {q : Pos} {a C : Addr} {ψ : Addr → PyData → Prop} (c : Hx M k N sc X a C) (G : FokE M kf x ψ) (hk : kf ≤ k) (he : DC M X e ρ (.ref a)) (hψ : ψ C d) (hs : starEach [e] X.env = (false, eval e X.env) :: starEach [] X.env := by rfl)
    (hpl : (backTo pos (starEach [] X.env)).any (·.1) = false := by rfl) (hg : (glB sc x && okN x) = true := by decide +kernel) : DE M X (.Call (.Name x q) [e] [] pos) ρ d := by
  rw [Bool.and_eq_true] at hg
  obtain ⟨f, fd, p, run, hm, hkp, hb⟩ := G.ex
  obtain ⟨oe, hp, hot, hz⟩ := c.pin
  intro B F σ H I Q q' pins s iv
  refine wpAny_Call_Name_kw (ld_glob iv (c.gl hg.1) (by rw [c.eg]; exact hm) ?_ (okN1 hg.2))
  refine PySem.W.callWith_K (h₀ := X.base) iv.ok.mod.kin (by rw [c.eK]; exact hkp) (thn ((pa_cons (pe_sem (X := X) (e := e)) pa_nil hs).run pos pins s σ H (fun vs H1 => vs = [V.ref a] ∧ H1 = H) iv (he B F σ H I _ ⟨rfl, rfl⟩)) fun us s1 hv => ⟨?_, ?_⟩) hs hpl
  · obtain ⟨vs, H1, I1, r1, _, rfl⟩ := hv
    exact I1.kIn
  · obtain ⟨vs, H1, I1, r1, rfl, rfl⟩ := hv
    have P1 := I1.pin (a, oe) (List.mem_append_left _ hp)
    have pk : L2H.PinOk X.stack H1 s1 (a, oe) := ⟨P1.1, P1.2.1, fun z => (List.mem_cons.mp (I1.stkSub a z)).elim P1.2.2.1 P1.2.2.2.1, P1.2.2.2.2⟩
    have bt := hb s1 us (by rw [← c.eK]; exact I1.kIn) (by rw [List.append_nil, ← r1.length]; rfl)
    rw [List.append_nil] at bt
    have e0 : Env0 M.P M.w M.K M.mg M.base X.A X.stack s1 H1 := by rw [← c.eP, ← c.ew, ← c.eK, ← c.eg, ← c.eb]; exact I1.env0
    have z := run X.A X.stack s1 H1 B (rem H1 B) ⟨us, []⟩ us Q E0 a C oe d (c.room.mono hk) hot pk e0 bt r1 hz hψ I.bh rem_same (fun a u => rem_dj) fun v H' B' t1 t2 t3 t4 pv => q' v H' B' t1 (I.back t1 t2 t3 t4) pv
    rw [← c.eP, ← c.ew] at z
    refine wpAny_call (codeAny_mono z fun r s' hq => ?_)
    cases r with
    | error e => exact passN pins σ H1 s1 e s' I1 hq
    | ok fl =>
      cases fl with
      | ret u => exact I1.after hq
      | next => exact False.elim hq
      | brk => exact False.elim hq
      | cont => exact False.elim hq
/-- isinstance of the error that is held -/
theorem call_isX {a D : Addr} {oe : Obj} (hp : (a, oe) ∈ X.pn) (C : ExcC X.K D) (hz : L2N.Zn (.ref D) none oe) (hf : ∃ vs, oe.data = .fields vs) : CallR X (.builtin "isinstance") (rIsE X.K D a) := fun pins s σ H xs us Q I r h => by
  obtain ⟨c, cv, b, rfl, hcv, e, q⟩ := h
  obtain ⟨u1, u2, rfl, r1, r2⟩ := vals2 r
  have ec := hcv _ r2
  subst ec
  cases (show u1 = Value.ref a from r1)
  obtain ⟨vs, hv⟩ := hf
  have J : PySem.W.InstAt s.heap a oe D none := by
    have hget := (I.pin (a, oe) (List.mem_append_left _ hp)).1
    cases oe with
    | mk oc od oda osl =>
      obtain ⟨h1, h2, _⟩ := hz
      dsimp only at h1 h2 hv
      subst h1; subst h2; subst hv
      exact ⟨hget, rfl, rfl, trivial⟩
  refine PySem.W.kia_one (PySem.W.handS_kitx_exc C.hg C.hk C.hs C.hd C.ha C.hn C.ht C.hm) I.kIn J e (fun z => nomatch z) fun tk => ?_
  exact ⟨.bl b, H, I.tok tk, rfl, q⟩
theorem de_isX {q : Pos} {v : V} {u : Value} {D a0 : Addr} (c : Hx M k N sc X a0 D) (hC : ExcC M.K D) (hm : M.mg "isinstance" = none) (ha : DC M X a ρ (.ref a0)) (hb : DC M X b ρ v) (hu : ClsV v u) (hk : PySem.W.kitOne M.K (.ref D) u = some bb)
    (he : starEach [a, b] X.env = (false, eval a X.env) :: starEach [b] X.env := by rfl) (he2 : starEach [b] X.env = (false, eval b X.env) :: starEach [] X.env := by rfl) (hpl : (backTo pos (starEach [b] X.env)).any (·.1) = false := by rfl) (hg : (glB sc "isinstance" && okN "isinstance") = true := by decide +kernel) : DE M X (.Call (.Name "isinstance" q) [a, b] [] pos) ρ (.bool bb) := by
  rw [Bool.and_eq_true] at hg
  obtain ⟨oe, hp, ⟨_, vs, hv, _⟩, hz⟩ := c.pin
  refine de_of (pe_callB (call_isX hp (by rw [c.eK]; exact hC) hz ⟨vs, hv⟩) (c.gl hg.1) (by rw [c.eg]; exact hm) boot_isinstance (pa_cons pe_sem (pa_cons pe_sem pa_nil he2) he) (okN3 hg.2) (okN1 hg.2) he hpl) fun B F σ H I Q q => ?_
  refine ha B F σ H I _ (hb B F σ H I _ ?_)
  exact ⟨v, u, bb, rfl, fun w r => hu.eq r, by rw [c.eK]; exact hk, q _ _ _ (Same.refl B) I (.bl bb)⟩
theorem kit_own {K : PySem.W.Frag} {C D : Addr} (h : PySem.W.subIn K (.ref C) (.ref D) = some bb) (hd : PySem.W.hasDictIn K D = true) (ht : PySem.W.typeIn K (.ref D) = some (.type "type")) (hne : C ≠ D) : PySem.W.kitOne K (.ref C) (.ref D) = some bb := by
  obtain ⟨cd, hc, _⟩ := PySem.W.any_some hd
  unfold PySem.W.kitOne
  rw [if_neg (fun z => hne (Value.ref.inj (beq_iff_eq.mp z)))]
  show (if ((PySem.W.clsIn K D).isSome && PySem.W.typeIn K (.ref D) == some (.type "type")) = true then PySem.W.subIn K (.ref C) (.ref D) else none) = some bb
  rw [if_pos (by rw [hc, ht]; rfl)]
  exact h
theorem kit_self {K : PySem.W.Frag} {C : Addr} : PySem.W.kitOne K (.ref C) (.ref C) = some true := if_pos (beq_self_eq_true _)
theorem kit_bi {K : PySem.W.Frag} {C : Addr} {T : String} (hm : PySem.W.kitMeta T = true) (h : PySem.W.subIn K (.ref C) (.type T) = some bb) : PySem.W.kitOne K (.ref C) (.type T) = some bb := by
  unfold PySem.W.kitOne
  rw [if_neg (fun z => by have := beq_iff_eq.mp z; cases this)]
  show (if PySem.W.kitMeta T = true then PySem.W.subIn K (.ref C) (.type T) else none) = some bb
  rw [if_pos hm]
  exact h
end
end Dl

namespace Dl
open PySem PySem.Spec PyProof.Rows L2
section
variable {M : Md} {X : Cx} {W : WX} {N : List Str} {sc : Sco} {k kf : Nat} {ρ ρ' ρ'' : List Sl} {d d1 d2 d3 : PyData} {ds es' : List PyData} {e o a b c' : Expr} {es : List Expr} {pos p2 p3 p4 p5 apos : Pos} {x y z : Str} {φ : List PyData → Out → Prop} {nx : List Sl → Prop} {R : REnds} {bb : Bool} {i : Nat}
/-! ### range downwards -/
def rangeDn (lo : Int) (n : Nat) : List PyData := (List.range n).map fun i => .int (lo + (i : Nat) * -1)
theorem di_down {tg : Expr} {q : Pos} {m n : Int} (c : Cv M N sc X) (hm : M.mg "range" = none) (ha : DE M X a ρ (.int m)) (hn : DE M X b ρ (.int n)) (hc : DE M X c' ρ (.int (-1))) (hb : -(2 ^ 62) ≤ m ∧ m < 2 ^ 62 ∧ -(2 ^ 62) ≤ n ∧ n < 2 ^ 62)
    (hs : starEach [a, b, c'] X.env = (false, eval a X.env) :: starEach [b, c'] X.env := by rfl) (hs2 : starEach [b, c'] X.env = (false, eval b X.env) :: starEach [c'] X.env := by rfl) (hs3 : starEach [c'] X.env = (false, eval c' X.env) :: starEach [] X.env := by rfl) (hpl : (backTo pos (starEach [b, c'] X.env)).any (·.1) = false := by rfl) (hg : glB sc "range" = true := by decide +kernel) : DI M X tg (.Call (.Name "range" q) [a, b, c'] [] pos) ρ (rangeDn m (m - n).toNat) :=
  di_of (pi_range3 (c.gl hg) (by rw [c.eg]; exact hm) (pa_cons pe_sem (pa_cons pe_sem (pa_cons pe_sem pa_nil hs3) hs2) hs) hs hpl) fun B F σ H I Rk r => ha B F σ H I _ fun v H1 B1 s I1 p => by
    cases p
    refine hn B1 F σ H1 I1 _ fun v2 H2 B2 s2 I2 p2 => ?_
    cases p2
    refine hc B2 F σ H2 I2 _ fun v3 H3 B3 s3 I3 p3 => ?_
    cases p3
    refine ⟨m, n, -1, (m - n).toNat, rfl, RgC.neg hb.1 hb.2.1 hb.2.2.1 hb.2.2.2, r _ H3 B3 ((s.trans s2).trans s3) I3 fun B4 F4 H4 σ4 ρ4 s4 I4 => ⟨fun i d hd => ?_, ?_⟩⟩
    · unfold rangeDn at hd
      rw [List.getElem?_map] at hd
      by_cases hi : i < (m - n).toNat
      · rw [List.getElem?_range hi] at hd
        cases hd
        refine ⟨hi, fun x H5 hy => ?_⟩
        obtain ⟨rfl, rfl⟩ := hy
        exact ⟨B4, Same.refl B4, I4, .int _⟩
      · rw [List.getElem?_eq_none (by rw [List.length_range]; omega)] at hd
        cases hd
    · show (m - n).toNat ≤ _
      unfold rangeDn
      rw [List.length_map, List.length_range]
      exact Nat.le_refl _
/-! ### zip -/
def zipD (ds es : List PyData) : List PyData := List.zipWith (fun a b => .tuple [a, b]) ds es
theorem di_zip {elts : List Expr} {kk : Nat} {tpos q : Pos} {d1 d2 : PyData} (c : Cv M N sc X) (hm : M.mg "zip" = none) (ha : DE M X a ρ d1) (hb : DE M X b ρ d2) (hk : (d1 = .list ds ∧ d2 = .list es') ∨ (d1 = .tuple ds ∧ d2 = .tuple es'))
    (hs : starEach [a, b] X.env = (false, eval a X.env) :: starEach [b] X.env := by rfl) (hs2 : starEach [b] X.env = (false, eval b X.env) :: starEach [] X.env := by rfl) (hpl : (backTo pos (starEach [b] X.env)).any (·.1) = false := by rfl) (hg : glB sc "zip" = true := by decide +kernel) : DI M X (.Tuple elts kk tpos) (.Call (.Name "zip" q) [a, b] [] pos) ρ (zipD ds es') :=
  di_of (RZ.pi_zipA (c.gl hg) (by rw [c.eg]; exact hm) (pa_cons pe_sem (pa_cons pe_sem pa_nil hs2) hs) hs hpl) fun B F σ H I Rk r => ha B F σ H I _ fun v H1 B1 s I1 p => hb B1 F σ H1 I1 _ fun v2 H2 B2 s2 I2 p2 => by
    have fin : ∀ {xs ys : List V} {B4 F4 H4 : Hp} {σ4 : L2.St} {ρ4 : List Sl} {i : Nat} {d : PyData}, DqAll M.K B2 xs ds → DqAll M.K B2 ys es' → Same B2 B4 → EnvB M.K B4 F4 H4 σ4 ρ4 → (zipD ds es')[i]? = some d →
        ∃ v w, xs[i]? = some v ∧ ys[i]? = some w ∧ ∀ T, H4 T = none → ∃ B5, Same B4 B5 ∧ EnvB M.K B5 F4 (upd H4 T (.tup [v, w])) σ4 ρ4 ∧ Dq M.K B5 (.ref T) d := fun {xs ys B4 F4 H4 σ4 ρ4 i d} al al2 s4 I4 hd => by
      unfold zipD at hd
      rw [List.getElem?_zipWith] at hd
      cases h1 : ds[i]? with
      | none => rw [h1] at hd; cases hd
      | some u1 =>
        cases h2 : es'[i]? with
        | none => rw [h1, h2] at hd; cases hd
        | some u2 =>
          rw [h1, h2] at hd
          cases hd
          obtain ⟨v, hv, pv⟩ := dpa_getd al i u1 h1
          obtain ⟨w, hw, pw⟩ := dpa_getd al2 i u2 h2
          refine ⟨v, w, hv, hw, fun T hT => ?_⟩
          obtain ⟨s5, I5⟩ := I4.new (o := .tup [v, w]) hT
          exact ⟨_, s5, I5, .tup (.inl (.inl upd_same)) (.cons (dp_mono (s4.trans s5) pv) (.cons (dp_mono (s4.trans s5) pw) .nil))⟩
    have ln : (zipD ds es').length = min ds.length es'.length := by unfold zipD; rw [List.length_zipWith]
    rcases hk with ⟨rfl, rfl⟩ | ⟨rfl, rfl⟩
    · cases p with
      | lst sq al =>
        cases p2 with
        | lst sq2 al2 =>
          rename_i a1 xs a2 ys
          have l1 := dpa_len al
          have l2 := dpa_len al2
          refine ⟨a1, a2, xs, ys, rfl, .inl ⟨SqL.of (I2.bh _ _ (s2 _ _ sq)), SqL.of (I2.bh _ _ sq2), r _ H2 B2 (s.trans s2) I2 fun B4 F4 H4 σ4 ρ4 s4 I4 => ?_⟩⟩
          have q1 : SqL X.K H4 a1 xs := SqL.of ((s4.trans I4.bh) _ _ (s2 _ _ sq))
          have q2 : SqL X.K H4 a2 ys := SqL.of ((s4.trans I4.bh) _ _ sq2)
          refine ⟨fun i d hd => ?_, ⟨xs, ys, q1, q2, by rw [ln]; omega⟩⟩
          obtain ⟨v, w, hv, hw, hT⟩ := fin (dpa_mono s2 al) al2 s4 I4 hd
          refine ⟨⟨xs, ys, v, w, q1, q2, hv, hw⟩, fun x H5 hy => ?_⟩
          obtain ⟨T, v', w', rfl, hT0, rfl, g1, g2⟩ := hy
          have e1 : v' = v := Option.some.inj ((g1 xs q1).symm.trans hv)
          have e2 : w' = w := Option.some.inj ((g2 ys q2).symm.trans hw)
          subst e1; subst e2
          exact hT T hT0
    · cases p with
      | tup sq al =>
        cases p2 with
        | tup sq2 al2 =>
          rename_i a1 xs a2 ys
          have l1 := dpa_len al
          have l2 := dpa_len al2
          refine ⟨a1, a2, xs, ys, rfl, .inr ⟨by rw [c.eK]; exact Evl.ex_t (s2.trans I2.bh) sq, by rw [c.eK]; exact Evl.ex_t I2.bh sq2, r _ H2 B2 (s.trans s2) I2 fun B4 F4 H4 σ4 ρ4 s4 I4 => ?_⟩⟩
          have q1 : SqT X.K H4 a1 xs := by rw [c.eK]; exact Evl.ex_t ((s2.trans s4).trans I4.bh) sq
          have q2 : SqT X.K H4 a2 ys := by rw [c.eK]; exact Evl.ex_t (s4.trans I4.bh) sq2
          refine ⟨fun i d hd => ?_, ⟨xs, ys, q1, q2, by rw [ln]; omega⟩⟩
          obtain ⟨v, w, hv, hw, hT⟩ := fin (dpa_mono s2 al) al2 s4 I4 hd
          refine ⟨⟨xs, ys, v, w, q1, q2, hv, hw⟩, fun x H5 hy => ?_⟩
          obtain ⟨T, v', w', rfl, hT0, rfl, g1, g2⟩ := hy
          have e1 : v' = v := Option.some.inj ((g1 xs q1).symm.trans hv)
          have e2 : w' = w := Option.some.inj ((g2 ys q2).symm.trans hw)
          subst e1; subst e2
          exact hT T hT0
/-! ### texts: join, startswith, times -/
theorem strs_inv {K : PySem.W.Frag} {B : Hp} : ∀ {ls : List (List Nat)} {xs : List V}, DqAll K B xs (ls.map S) → xs = (ls.map fun t => (⟨t.toArray⟩ : Str)).map V.str
  | [], _, .nil => rfl
  | t :: r, _, .cons h tl => by
    cases h
    rw [strs_inv tl]
    rfl
theorem tooLong_of {n : Nat} (h : n ≤ 100000) : Builtin.Str.tooLong n = false := decide_eq_false (by have := Evl.sz_of h; omega)
theorem mt_joinL {a0 : List Nat} {ls : List (List Nat)} (c : Cv M N sc X) (hz : (ls.map List.length).sum + ls.length * a0.length ≤ 16777216) : Mt M X "str.join" (S a0) [.list (ls.map S)] (S (TL.joinL a0 ls)) := ⟨_, mt_join, fun B F σ H ρ v vs I p0 p Q q => by
  cases p0
  obtain ⟨v1, rfl, p1⟩ := inv_all1 p
  cases p1 with
  | lst sq al =>
    rename_i a1 xs
    have ev := strs_inv al
    subst ev
    refine ⟨⟨a0.toArray⟩, a1, ls.map fun t => ⟨t.toArray⟩, rfl, rfl, .inl (SqL.of (I.bh _ _ sq)), ?_, ?_⟩
    · rw [List.map_map, List.length_map]
      refine Nat.le_trans (Nat.le_of_eq ?_) hz
      congr 1
    · have e : Txt.join ⟨a0.toArray⟩ (ls.map fun t => (⟨t.toArray⟩ : Str)) = ⟨(TL.joinL a0 ls).toArray⟩ := by
        rw [TL.join_eq]
        have h := TL.tl_join ⟨a0.toArray⟩ (ls.map fun t => (⟨t.toArray⟩ : Str))
        have h2 : ((ls.map fun t => (⟨t.toArray⟩ : Str)).map TL.tl) = ls := by
          rw [List.map_map]
          exact (List.map_congr_left fun t _ => rfl).trans (List.map_id _)
        rw [h2] at h
        have h3 : (Str.join ⟨a0.toArray⟩ (ls.map fun t => (⟨t.toArray⟩ : Str))) = ⟨(TL.tl (Str.join ⟨a0.toArray⟩ (ls.map fun t => (⟨t.toArray⟩ : Str)))).toArray⟩ := by
          show _ = (⟨(Array.toList _).toArray⟩ : Str)
          rw [Array.toArray_toList]
        rw [h3, h]
      rw [e]
      exact q _ _ _ (Same.refl B) I (.str _)⟩
theorem joinL_nil : ∀ ls : List (List Nat), TL.joinL [] ls = ls.flatten
  | [] => rfl
  | [p] => by show p = p ++ []; rw [List.append_nil]
  | p :: q :: r => by
    show p ++ ([] ++ TL.joinL [] (q :: r)) = _
    rw [joinL_nil (q :: r)]
    rfl
theorem mt_starts {s t : List Nat} : Mt M X "str.startswith" (S s) [S t] (.bool (decide (s.take t.length = t))) := ⟨_, mt_startswith, fun B F σ H ρ v vs I p0 p Q q => by
  cases p0
  obtain ⟨v1, rfl, p1⟩ := inv_all1 p
  cases p1
  refine ⟨_, _, rfl, rfl, ?_⟩
  have e : Txt.startswith ⟨s.toArray⟩ ⟨t.toArray⟩ = decide (s.take t.length = t) := by
    unfold Txt.startswith Builtin.Str.subAt
    have l1 : (⟨t.toArray⟩ : Str).length = t.length := by show t.toArray.size = _; simp
    have l2 : (⟨s.toArray⟩ : Str).length = s.length := by show s.toArray.size = _; simp
    rw [l1, l2]
    have e2 : (s.toArray.extract 0 (0 + t.length) == t.toArray) = decide (s.take t.length = t) := by
      have : s.toArray.extract 0 (0 + t.length) = (s.take t.length).toArray := by simp
      rw [this]
      by_cases h : s.take t.length = t
      · rw [h, decide_eq_true rfl]; simp
      · rw [decide_eq_false h]
        refine beq_eq_false_iff_ne.mpr fun z => h ?_
        simpa using z
    show (decide (0 + t.length ≤ s.length) && (s.toArray.extract 0 (0 + t.length) == t.toArray)) = _
    rw [e2]
    by_cases h : s.take t.length = t
    · have : t.length ≤ s.length := by
        have := congrArg List.length h
        rw [List.length_take] at this
        omega
      rw [decide_eq_true h, decide_eq_true (by omega)]
      rfl
    · rw [decide_eq_false h, Bool.and_false]
  rw [e]
  exact q _ _ _ (Same.refl B) I (.bl _)⟩
theorem de_join {ls : List (List Nat)} {a0 : List Nat} (c : Cv M N sc X) (ho : DE M X o ρ (S a0)) (he : DE M X e ρ (.list (ls.map S))) (hz : (ls.map List.length).sum + ls.length * a0.length ≤ 16777216)
    (hs : starEach [e] X.env = [(false, eval e X.env)] := by rfl) (hbase : attributeBase o "join" X.env (eval o X.env) = eval o X.env := by rfl) (hline : (apos.endLine == pos.line) = true := by rfl) : DE M X (.Call (.Attribute o "join" apos) [e] [] pos) ρ (S (TL.joinL a0 ls)) :=
  de_m1 PySem.F.slot_str_join PySem.F.type_str_join ho he (mt_joinL c hz) hs hbase hline
theorem de_starts {s t : List Nat} (ho : DE M X o ρ (S s)) (he : DE M X e ρ (S t)) (hs : starEach [e] X.env = [(false, eval e X.env)] := by rfl) (hbase : attributeBase o "startswith" X.env (eval o X.env) = eval o X.env := by rfl) (hline : (apos.endLine == pos.line) = true := by rfl) : DE M X (.Call (.Attribute o "startswith" apos) [e] [] pos) ρ (.bool (decide (s.take t.length = t))) :=
  de_m1 PySem.F.slot_str_startswith PySem.F.type_str_startswith ho he mt_starts hs hbase hline
theorem op_mulStr : OpR X (binaryOp .Mult) (fun x y H Q => ∃ (l : List Nat) (n : Int), x = .str ⟨l.toArray⟩ ∧ y = .int n ∧ 0 ≤ n ∧ n ≤ 100000 ∧ l.length * n.toNat ≤ 100000 ∧ Q (.str ⟨(List.replicate n.toNat l).flatten.toArray⟩) H) := by
  intro pins s σ H x y v u Q I rx ry h
  obtain ⟨l, n, rfl, rfl, h0, h1, h2, q⟩ := h
  obtain ⟨t, rfl⟩ := rx
  obtain ⟨t', rfl⟩ := ry
  have lz : (⟨l.toArray⟩ : Str).length = l.length := by show l.toArray.size = _; simp
  have fold : ∀ (k : Nat) (b : Array Nat), (List.replicate k l.toArray).foldl (· ++ ·) b = b ++ (List.replicate k l).flatten.toArray := fun k => by
    induction k with
    | zero => intro b; simp
    | succ k ih => intro b; rw [List.replicate_succ, List.foldl_cons, ih]; simp [List.replicate_succ]
  refine PySem.P.mul_str (by rw [decide_eq_false (by omega), decide_eq_false (by omega)]; rfl) (fun g1 g2 => ?_) (fun g1 g2 => ?_) ?_
  · rw [lz]
    have : l.length ≤ 100000 := by
      have : 1 ≤ n.toNat := by omega
      have := Nat.le_mul_of_pos_right l.length this
      omega
    have hq : (100000 : Int) ≤ (2 ^ 63 - 1) / n := (Int.le_ediv_iff_mul_le (by omega)).mpr (by omega)
    omega
  · rw [lz]
    exact tooLong_of (by omega)
  · by_cases c1 : n < 1
    · have e : n = 0 := by omega
      subst e
      rw [if_pos c1]
      exact ⟨by decide, .str _, H, I.tok _, ⟨_, rfl⟩, q⟩
    · rw [if_neg c1]
      by_cases c2 : (n == 1 || (⟨l.toArray⟩ : Str).length == 0) = true
      · rw [if_pos c2]
        have e : (List.replicate n.toNat l).flatten = l := by
          rw [lz, Bool.or_eq_true] at c2
          rcases c2 with c2 | c2
          · have : n = 1 := by simpa using c2
            subst this
            simp
          · have : l = [] := by simpa using c2
            subst this
            simp
        rw [e] at q
        exact ⟨.str _, H, I, ⟨t, rfl⟩, q⟩
      · rw [if_neg c2, show (⟨l.toArray⟩ : Str).cps = l.toArray from rfl, fold]
        refine ⟨?_, .str _, H, I.tok _, ⟨_, rfl⟩, ?_⟩
        · refine Evl.sz_of ?_
          show Array.size _ ≤ _
          simp
          rw [Nat.mul_comm]
          exact h2
        · have e : #[] ++ (List.replicate n.toNat l).flatten.toArray = (List.replicate n.toNat l).flatten.toArray := by simp
          rw [e]
          exact q
theorem o_mulS {l : List Nat} {n : Int} (h : 0 ≤ n ∧ n ≤ 100000) (h2 : l.length * n.toNat ≤ 100000) : Op2 M X (binaryOp .Mult) (S l) (.int n) (S (List.replicate n.toNat l).flatten) := op2_val op_mulStr inv_str inv_int (fun B => .str _) fun H Q q => ⟨l, n, rfl, rfl, h.1, h.2, h2, q⟩
/-! ### count, index of flat lists -/
def vD : PyData → V
  | .bool b => .bl b
  | .int i => .int i
  | .str y => .str y
  | _ => .non
def flatD : PyData → Bool
  | .none => true
  | .bool _ => true
  | .int _ => true
  | .str _ => true
  | _ => false
theorem vD_of {K : PySem.W.Frag} {B : Hp} {v : V} (h : flatD d = true) (p : Dq K B v d) : v = vD d ∧ flatV v = true := by
  cases p <;> first | exact ⟨rfl, rfl⟩ | cases h
theorem vDs_of {K : PySem.W.Frag} {B : Hp} : ∀ {ds : List PyData} {vs : List V}, ds.all flatD = true → DqAll K B vs ds → vs = ds.map vD ∧ vs.all flatV = true
  | [], _, _, .nil => ⟨rfl, rfl⟩
  | d :: ds, _, h, .cons p t => by
    rw [List.all_cons, Bool.and_eq_true] at h
    obtain ⟨e1, f1⟩ := vD_of h.1 p
    obtain ⟨e2, f2⟩ := vDs_of h.2 t
    subst e1; subst e2
    exact ⟨rfl, by rw [List.all_cons, f1, f2]; rfl⟩
def rCntF (K : PySem.W.Frag) : V → List V → Hp → VK → Prop := fun x xs H Q => ∃ (p : Addr) (ys : List V) (y : V), x = .ref p ∧ xs = [y] ∧ SqL K H p ys ∧ flatV y = true ∧ ys.all flatV = true ∧ Q (.int ((ys.countP fun z => eqV z y : Nat) : Int)) H
theorem countU {y : V} : ∀ {ys : List V} {us : List Value}, Vals ys us → ys.all flatV = true → us.countP (eqU y) = ys.countP fun z => eqV z y
  | _, _, .nil, _ => rfl
  | _ :: _, _ :: _, .cons r t, f => by
    rw [List.all_cons, Bool.and_eq_true] at f
    rw [List.countP_cons, List.countP_cons, countU t f.2, eqU_of r f.1]
theorem mt_lcountF : MtR X "list.count" (rCntF X.K) := fun pins s σ H x xs v us Q I rx rxs h => by
  obtain ⟨p, ys, y, rfl, rfl, hs, fy, fys, q⟩ := h
  cases rx
  obtain ⟨u, rfl, ru⟩ := rxs.one
  obtain ⟨its, rv, ⟨⟨cls, dd, data, sl⟩, n, ho, hc, hdn, hd⟩, hlen⟩ := I.list hs
  simp only at hc hd
  subst hc; subst hd
  refine call_meets PySem.F.slot_list_count ⟨_, ho, rfl⟩ PySem.F.entry_list_count (PySem.F.args_list_count_2 _ _) (SeqAt.list_countAt p its.toArray n dd sl u (eqU y)) ⟨ho, fun z hz => mem_eqAt ru fy rv fys z (by simpa using hz), ?_⟩
  refine ⟨.int ((ys.countP fun z => eqV z y : Nat) : Int), H, I.tok _, ⟨s.toks, ?_⟩, q⟩
  rw [← countU rv fys]
def cntD (d : PyData) (ds : List PyData) : Nat := (ds.map vD).countP fun z => eqV z (vD d)
theorem de_mL1 {id : String} {name : Str} (c : Cv M N sc X) (slot : Slot "list" name id) (ty : typeOf (.builtin id) = pure (.type "method_descriptor")) (ho : DE M X o ρ (.list ds)) (he : DE M X e ρ d1) (hm : Mt M X id (.list ds) [d1] d)
    (hbase : attributeBase o name X.env (eval o X.env) = eval o X.env := by rfl)
    (hfew : ((backTo pos (starEach [e] X.env)).all (fun x => !x.1) && (backToKw pos (keywordEach [] X.env)).all (fun x => x.1.isSome) && decide ([e].length + ([] : List Keyword).length + (if ([] : List Keyword).isEmpty then 0 else 1) < 30)) = true := by rfl)
    (hline : (apos.endLine == pos.line) = true := by rfl) (hs : starEach [e] X.env = (false, eval e X.env) :: starEach [] X.env := by rfl) (hplain : (backTo pos (starEach [] X.env)).any (·.1) = false := by rfl) : DE M X (.Call (.Attribute o name apos) [e] [] pos) ρ d := by
  obtain ⟨r, hr, hq⟩ := hm
  refine de_of (pe_bm PySem.F.plainAttrs_list slot ty hr pe_sem (pa_cons pe_sem pa_nil hs) hbase hfew hline hs hplain) fun B F σ H I Q q => ho B F σ H I _ fun v H1 B1 s1 I1 p1 => ⟨?_, he B1 F σ H1 I1 _ fun v2 H2 B2 s2 I2 p2 => ?_⟩
  · cases p1 with
    | lst s al => exact tyV_lst (I1.bh _ _ s)
  · exact hq B2 F σ H2 ρ v [v2] I2 (dp_mono s2 p1) (.cons p2 .nil) Q fun v3 H3 B3 s3 I3 p3 => q v3 H3 B3 ((s1.trans s2).trans s3) I3 p3
theorem mt_cntD (h : ds.all flatD = true) (h1 : flatD d = true) : Mt M X "list.count" (.list ds) [d] (.int (cntD d ds)) := ⟨_, mt_lcountF, fun B F σ H ρ v vs I p0 p Q q => by
  obtain ⟨v1, rfl, p1⟩ := inv_all1 p
  cases p0 with
  | lst s al =>
    obtain ⟨e1, f1⟩ := vD_of h1 p1
    obtain ⟨e2, f2⟩ := vDs_of h al
    refine ⟨_, _, v1, rfl, rfl, SqL.of (I.bh _ _ s), f1, f2, ?_⟩
    rw [e1, e2]
    exact q _ _ _ (Same.refl B) I (.int _)⟩
theorem de_count (c : Cv M N sc X) (ho : DE M X o ρ (.list ds)) (he : DE M X e ρ d) (h : ds.all flatD = true) (h1 : flatD d = true)
    (hbase : attributeBase o "count" X.env (eval o X.env) = eval o X.env := by rfl)
    (hfew : ((backTo pos (starEach [e] X.env)).all (fun x => !x.1) && (backToKw pos (keywordEach [] X.env)).all (fun x => x.1.isSome) && decide ([e].length + ([] : List Keyword).length + (if ([] : List Keyword).isEmpty then 0 else 1) < 30)) = true := by rfl)
    (hline : (apos.endLine == pos.line) = true := by rfl) (hs : starEach [e] X.env = (false, eval e X.env) :: starEach [] X.env := by rfl) (hplain : (backTo pos (starEach [] X.env)).any (·.1) = false := by rfl) : DE M X (.Call (.Attribute o "count" apos) [e] [] pos) ρ (.int (cntD d ds)) :=
  de_mL1 c PySem.F.slot_list_count PySem.F.type_list_count ho he (mt_cntD h h1) hbase hfew hline hs hplain
theorem mt_idxD {j : Nat} (h : ds.all flatD = true) (h1 : flatD d = true) (hj : (ds.map vD)[j]? = some z') (hz : eqV z' (vD d) = true) (hn : ∀ (m : Nat) (z : V), m < j → (ds.map vD)[m]? = some z → eqV z (vD d) = false) : Mt M X "list.index" (.list ds) [d] (.int (j : Nat)) := ⟨_, mt_index, fun B F σ H ρ v vs I p0 p Q q => by
  obtain ⟨v1, rfl, p1⟩ := inv_all1 p
  cases p0 with
  | lst s al =>
    obtain ⟨e1, f1⟩ := vD_of h1 p1
    obtain ⟨e2, f2⟩ := vDs_of h al
    refine ⟨_, _, v1, j, z', rfl, rfl, SqL.of (I.bh _ _ s), f1, f2, by rw [e2]; exact hj, by rw [e1]; exact hz, fun m z hm hz => ?_, q _ _ _ (Same.refl B) I (.int _)⟩
    rw [e1]
    rw [e2] at hz
    exact hn m z hm hz⟩
theorem de_index {j : Nat} {z' : V} (c : Cv M N sc X) (ho : DE M X o ρ (.list ds)) (he : DE M X e ρ d) (h : ds.all flatD = true) (h1 : flatD d = true) (hj : (ds.map vD)[j]? = some z') (hz : eqV z' (vD d) = true) (hn : ∀ (m : Nat) (z : V), m < j → (ds.map vD)[m]? = some z → eqV z (vD d) = false)
    (hbase : attributeBase o "index" X.env (eval o X.env) = eval o X.env := by rfl)
    (hfew : ((backTo pos (starEach [e] X.env)).all (fun x => !x.1) && (backToKw pos (keywordEach [] X.env)).all (fun x => x.1.isSome) && decide ([e].length + ([] : List Keyword).length + (if ([] : List Keyword).isEmpty then 0 else 1) < 30)) = true := by rfl)
    (hline : (apos.endLine == pos.line) = true := by rfl) (hs : starEach [e] X.env = (false, eval e X.env) :: starEach [] X.env := by rfl) (hplain : (backTo pos (starEach [] X.env)).any (·.1) = false := by rfl) : DE M X (.Call (.Attribute o "index" apos) [e] [] pos) ρ (.int (j : Nat)) :=
  de_mL1 c PySem.F.slot_list_index PySem.F.type_list_index ho he (mt_idxD h h1 hj hz hn) hbase hfew hline hs hplain
/-! ### min, max of texts -/
def bestS (lt : List Nat → List Nat → Bool) (x : List Nat) (r : List (List Nat)) : List Nat := r.foldl (fun b y => if lt y b = true then y else b) x
theorem best_at {lt : List Nat → List Nat → Bool} {x : List Nat} {r : List (List Nat)} : ∀ k, k ≤ r.length → (x :: r)[argBest (fun i j => lt ((x :: r).getD i []) ((x :: r).getD j [])) k]? = some (bestS lt x (r.take k))
  | 0, _ => rfl
  | k + 1, hk => by
    have ih := best_at (lt := lt) (x := x) (r := r) k (by omega)
    have e : r.take (k + 1) = r.take k ++ [r[k]'(by omega)] := by rw [List.take_add_one, List.getElem?_eq_getElem (by omega : k < r.length)]; rfl
    have g1 : (x :: r).getD (k + 1) [] = r[k]'(by omega) := by rw [List.getD_eq_getElem?_getD, List.getElem?_cons_succ, List.getElem?_eq_getElem (by omega : k < r.length)]; rfl
    have g2 : (x :: r).getD (argBest (fun i j => lt ((x :: r).getD i []) ((x :: r).getD j [])) k) [] = bestS lt x (r.take k) := by rw [List.getD_eq_getElem?_getD, ih]; rfl
    unfold argBest
    rw [g1, g2, e]
    unfold bestS
    rw [List.foldl_append, List.foldl_cons, List.foldl_nil]
    unfold bestS at ih
    by_cases hc : lt (r[k]'(by omega)) (r.take k |>.foldl (fun b y => if lt y b = true then y else b) x) = true
    · rw [if_pos hc, if_pos hc, List.getElem?_cons_succ, List.getElem?_eq_getElem (by omega : k < r.length)]
    · rw [if_neg hc, if_neg hc]
      exact ih
theorem cmpOf_strs {prog : Program} {w : World} {A : Around} {op : CmpOp} {lt : List Nat → List Nat → Bool} (hop : ∀ (i j : List Nat) (t u : Tok) (s : Shared) (Q : Value → Shared → Prop) (E : Value → Shared → Prop), Q (.bool (lt i j)) s → wpAny (model prog w) A (richCompare op (.str ⟨i.toArray⟩ t) (.str ⟨j.toArray⟩ u)) Q E s)
    {ls : List (List Nat)} {its : List Value} (rv : Vals ((ls.map fun t => (⟨t.toArray⟩ : Str)).map V.str) its) : CmpOf prog w A op (fun i v => its.toArray[i]? = some v) (fun i j => lt (ls.getD i []) (ls.getD j [])) := fun i j vi vj s Q E hi hj h => by
  have get : ∀ {i : Nat} {v : Value}, its.toArray[i]? = some v → ∃ t, v = .str ⟨(ls.getD i []).toArray⟩ t := fun {i v} hi => by
    have hi : its[i]? = some v := by simpa using hi
    have hl := rv.length
    rw [List.length_map, List.length_map] at hl
    have hlt : i < ls.length := by have := (List.getElem?_eq_some_iff.mp hi).1; omega
    have e : ((ls.map fun t => (⟨t.toArray⟩ : Str)).map V.str)[i]? = some (V.str ⟨(ls.getD i []).toArray⟩) := by
      rw [List.getElem?_map, List.getElem?_map, List.getElem?_eq_getElem hlt, List.getD_eq_getElem?_getD, List.getElem?_eq_getElem hlt]
      rfl
    obtain ⟨u, hu, ru⟩ := rv.get e
    rw [hi] at hu
    cases hu
    exact ru
  obtain ⟨t, rfl⟩ := get hi
  obtain ⟨u, rfl⟩ := get hj
  exact hop _ _ t u s Q E h
def ltB (a b : List Nat) : Bool := decide (a < b)
def gtB (a b : List Nat) : Bool := decide (b < a)
theorem hop_lt {prog : Program} {w : World} {A : Around} (i j : List Nat) (t u : Tok) (s : Shared) (Q : Value → Shared → Prop) (E : Value → Shared → Prop) (h : Q (.bool (ltB i j)) s) : wpAny (model prog w) A (richCompare .Lt (.str ⟨i.toArray⟩ t) (.str ⟨j.toArray⟩ u)) Q E s :=
  richCompare_gives (op := .Lt) (typeIs_str s _ _) (typeIs_str s _ _) PySem.F.slot_str_lt PySem.F.entry_str_lt (PySem.F.args_str_lt_2 _ _) (gives_str_lt _ _ _ _) (fun x => nomatch x) h
theorem hop_gt {prog : Program} {w : World} {A : Around} (i j : List Nat) (t u : Tok) (s : Shared) (Q : Value → Shared → Prop) (E : Value → Shared → Prop) (h : Q (.bool (gtB i j)) s) : wpAny (model prog w) A (richCompare .Gt (.str ⟨i.toArray⟩ t) (.str ⟨j.toArray⟩ u)) Q E s :=
  richCompare_gives (op := .Gt) (typeIs_str s _ _) (typeIs_str s _ _) PySem.F.slot_str_gt PySem.F.entry_str_gt (PySem.F.args_str_gt_2 _ _) (gives_str_gt _ _ _ _) (fun x => nomatch x) h
def rBest (K : PySem.W.Frag) (lt : List Nat → List Nat → Bool) : List V → Hp → VK → Prop := fun xs H Q => ∃ (p : Addr) (x : List Nat) (r : List (List Nat)), xs = [.ref p] ∧ SqL K H p (((x :: r).map fun t => (⟨t.toArray⟩ : Str)).map V.str) ∧ Q (.str ⟨(bestS lt x r).toArray⟩) H
theorem best_val {lt : List Nat → List Nat → Bool} {x : List Nat} {r : List (List Nat)} {its : List Value} {v : Value} (rv : Vals (((x :: r).map fun t => (⟨t.toArray⟩ : Str)).map V.str) its) (h : its.toArray[argBest (fun i j => lt ((x :: r).getD i []) ((x :: r).getD j [])) (its.toArray.size - 1)]? = some v) : RelV (.str ⟨(bestS lt x r).toArray⟩) v := by
  have hl := rv.length
  rw [List.length_map, List.length_map, List.length_cons] at hl
  have e1 : its.toArray.size - 1 = r.length := by rw [List.size_toArray]; omega
  rw [e1] at h
  have h2 := best_at (lt := lt) (x := x) (r := r) r.length (Nat.le_refl _)
  rw [List.take_of_length_le (Nat.le_refl _)] at h2
  have e : (((x :: r).map fun t => (⟨t.toArray⟩ : Str)).map V.str)[argBest (fun i j => lt ((x :: r).getD i []) ((x :: r).getD j [])) r.length]? = some (V.str ⟨(bestS lt x r).toArray⟩) := by
    rw [List.getElem?_map, List.getElem?_map, h2]
    rfl
  obtain ⟨u, hu, ru⟩ := rv.get e
  have h : its[argBest (fun i j => lt ((x :: r).getD i []) ((x :: r).getD j [])) r.length]? = some v := by simpa using h
  rw [h] at hu
  cases hu
  exact ru
theorem call_minT (hc : X.calm = true) : CallR X (.builtin "min") (rBest X.K ltB) := fun pins s σ H xs us Q I r h => by
  obtain ⟨p, x, rs, rfl, hs, q⟩ := h
  obtain ⟨its, rv, hl, _⟩ := I.list hs
  rw [Vals.ref1 r]
  have hz := rv.length
  rw [List.length_map, List.length_map, List.length_cons] at hz
  refine call_min_walk (iter_anyList hl.isList fun s₂ e st hfp hlI => ?_)
  subst e
  refine ⟨_, _, _, _, _, _, _, rfl, Walks.list (A := X.A.in1) (I.ok.hd hc) _ p hlI its.toArray, st, hfp, by rw [List.size_toArray]; omega, cmpOf_strs hop_lt rv, fun v h' tk hP hk => ?_⟩
  exact ⟨_, H, I.kept (PySem.old_kept hk), best_val rv hP, q⟩
theorem call_maxT (hc : X.calm = true) : CallR X (.builtin "max") (rBest X.K gtB) := fun pins s σ H xs us Q I r h => by
  obtain ⟨p, x, rs, rfl, hs, q⟩ := h
  obtain ⟨its, rv, hl, _⟩ := I.list hs
  rw [Vals.ref1 r]
  have hz := rv.length
  rw [List.length_map, List.length_map, List.length_cons] at hz
  refine call_max_walk (iter_anyList hl.isList fun s₂ e st hfp hlI => ?_)
  subst e
  refine ⟨_, _, _, _, _, _, _, rfl, Walks.list (A := X.A.in1) (I.ok.hd hc) _ p hlI its.toArray, st, hfp, by rw [List.size_toArray]; omega, cmpOf_strs hop_gt rv, fun v h' tk hP hk => ?_⟩
  exact ⟨_, H, I.kept (PySem.old_kept hk), best_val rv hP, q⟩
theorem cl_minS {x : List Nat} {r : List (List Nat)} (hc : X.calm = true) : Cl M X (.builtin "min") [.list ((x :: r).map S)] (S (bestS ltB x r)) := ⟨_, call_minT hc, fun B F σ H ρ vs I p Q q => by
  obtain ⟨v, rfl, p1⟩ := inv_all1 p
  cases p1 with
  | lst s al => exact ⟨_, x, r, rfl, SqL.of (by rw [← strs_inv al]; exact I.bh _ _ s), q _ _ _ (Same.refl B) I (.str _)⟩⟩
theorem cl_maxS {x : List Nat} {r : List (List Nat)} (hc : X.calm = true) : Cl M X (.builtin "max") [.list ((x :: r).map S)] (S (bestS gtB x r)) := ⟨_, call_maxT hc, fun B F σ H ρ vs I p Q q => by
  obtain ⟨v, rfl, p1⟩ := inv_all1 p
  cases p1 with
  | lst s al => exact ⟨_, x, r, rfl, SqL.of (by rw [← strs_inv al]; exact I.bh _ _ s), q _ _ _ (Same.refl B) I (.str _)⟩⟩
theorem nlt_trans {a b c : List Nat} (h1 : ¬ a < b) (h2 : ¬ b < c) : ¬ a < c := by
  have q1 : b ≤ a := List.not_lt.mp h1
  have q2 : c ≤ b := List.not_lt.mp h2
  exact List.not_lt.mpr (List.le_trans q2 q1)
theorem bestS_min (x : List Nat) : ∀ (r : List (List Nat)), bestS ltB x r ∈ x :: r ∧ ∀ y ∈ x :: r, ¬ y < bestS ltB x r := fun r => by
  unfold bestS
  induction r generalizing x with
  | nil => exact ⟨by simp, fun y hy => by simp at hy; subst hy; exact List.lt_irrefl _⟩
  | cons z r ih =>
    rw [List.foldl_cons]
    by_cases hc : ltB z x = true
    · rw [if_pos hc]
      obtain ⟨h1, h2⟩ := ih z
      refine ⟨List.mem_cons_of_mem _ h1, fun y hy => ?_⟩
      rcases List.mem_cons.mp hy with e | e
      · subst e
        exact fun q => nlt_trans (fun w => List.lt_irrefl _ (List.lt_trans w (of_decide_eq_true hc))) (h2 z List.mem_cons_self) q
      · exact h2 y e
    · rw [if_neg hc]
      obtain ⟨h1, h2⟩ := ih x
      refine ⟨?_, fun y hy => ?_⟩
      · rcases List.mem_cons.mp h1 with e | e
        · rw [e]; exact List.mem_cons_self
        · exact List.mem_cons_of_mem _ (List.mem_cons_of_mem _ e)
      · rcases List.mem_cons.mp hy with e | e
        · exact h2 y (by rw [e]; exact List.mem_cons_self)
        · rcases List.mem_cons.mp e with e | e
          · rw [e]
            exact nlt_trans (fun w => hc (decide_eq_true w)) (h2 x List.mem_cons_self)
          · exact h2 y (List.mem_cons_of_mem _ e)
theorem bestS_max (x : List Nat) : ∀ (r : List (List Nat)), bestS gtB x r ∈ x :: r ∧ ∀ y ∈ x :: r, ¬ bestS gtB x r < y := fun r => by
  unfold bestS
  induction r generalizing x with
  | nil => exact ⟨by simp, fun y hy => by simp at hy; subst hy; exact List.lt_irrefl _⟩
  | cons z r ih =>
    rw [List.foldl_cons]
    by_cases hc : gtB z x = true
    · rw [if_pos hc]
      obtain ⟨h1, h2⟩ := ih z
      refine ⟨List.mem_cons_of_mem _ h1, fun y hy => ?_⟩
      rcases List.mem_cons.mp hy with e | e
      · subst e
        exact fun q => nlt_trans (h2 z List.mem_cons_self) (fun w => List.lt_irrefl _ (List.lt_trans w (of_decide_eq_true hc))) q
      · exact h2 y e
    · rw [if_neg hc]
      obtain ⟨h1, h2⟩ := ih x
      refine ⟨?_, fun y hy => ?_⟩
      · rcases List.mem_cons.mp h1 with e | e
        · rw [e]; exact List.mem_cons_self
        · exact List.mem_cons_of_mem _ (List.mem_cons_of_mem _ e)
      · rcases List.mem_cons.mp hy with e | e
        · exact h2 y (by rw [e]; exact List.mem_cons_self)
        · rcases List.mem_cons.mp e with e | e
          · rw [e]
            exact nlt_trans (h2 x List.mem_cons_self) (fun w => hc (decide_eq_true w))
          · exact h2 y (List.mem_cons_of_mem _ e)
/-- the least is the greatest: all are alike -/
theorem best_same {x : List Nat} {r : List (List Nat)} : bestS ltB x r = bestS gtB x r ↔ ∀ y ∈ r, y = x := by
  obtain ⟨h1, h2⟩ := bestS_min x r
  obtain ⟨h3, h4⟩ := bestS_max x r
  constructor
  · intro e
    have all : ∀ y ∈ x :: r, y = bestS ltB x r := fun y hy => by
      have q1 : bestS ltB x r ≤ y := List.not_lt.mp (h2 y hy)
      have q2 : y ≤ bestS ltB x r := List.not_lt.mp (by rw [e]; exact h4 y hy)
      exact List.le_antisymm q2 q1
    intro y hy
    rw [all y (List.mem_cons_of_mem _ hy), ← all x List.mem_cons_self]
  · intro e
    have all : ∀ y ∈ x :: r, y = x := fun y hy => (List.mem_cons.mp hy).elim id (e y)
    rw [all _ h1, all _ h3]
end
end Dl

namespace Dl
open PySem PySem.Spec PyProof.Rows L2
open Sem (wp)
/-! ### enumerate of a tuple -/
theorem meets_enum1 {v : Value} {o : Obj} {H : Heap → Prop} (B : Begins v o H) : Meets (Builtin.«enumerate.__new__» ⟨[.type "enumerate", v], []⟩) (fun _ R s => H s.heap ∧ R (.ok (.ret (.ref (s.heap.push o).objs.size))) { s with heap := (s.heap.push o).push { cls := .type "enumerate", data := .fields #[.none, .bool false, .ref s.heap.objs.size, rawInt 0, .none, .none] } }) :=
  .of_wp fun prog w A R s hh => by
    obtain ⟨hp, g, d, tk, os⟩ := s
    obtain ⟨h1, h⟩ := hh
    have hs := sub_enumerate
    have bi : ∀ {A' : Around} {E : Value → Shared → Prop} {Q : Value → Shared → Prop}, Q (.ref hp.objs.size) ⟨hp.push o, g, d, tk, os⟩ → wpAny (model prog w) A' (pyIter v) Q E ⟨hp, g, d, tk, os⟩ := fun q => B.iter prog w _ _ ⟨hp, g, d, tk, os⟩ _ h1 q
    wp_walk using bi
    refine wpAny_stack_any fun st => wpAny_pure ?_
    split
    · rename_i c _ _ _ _ _
      cases (c == Value.type "enumerate") <;> (wp_walk using bi; exact ⟨_, rfl, h⟩)
    · wp_walk using bi
      exact ⟨_, rfl, h⟩
theorem call_enum1 {prog : Program} {w : World} {A : Around} {E : Value → Shared → Prop} {s : Shared} {v : Value} {o : Obj} {H : Heap → Prop} {Q : Value → Shared → Prop} (B : Begins v o H) (h1 : H s.heap)
    (h : ∀ h', IsEnum h' (s.heap.objs.size + 1) s.heap.objs.size 0 .none → h'.get? s.heap.objs.size = some o → (∀ b o, s.heap.get? b = some o → h'.get? b = some o) → Q (.ref (s.heap.objs.size + 1)) { s with heap := h' }) :
    wpAny (model prog w) A (call (.type "enumerate") [v]) Q E s := by
  have hz : (s.heap.push o).objs.size = s.heap.objs.size + 1 := Heap.size_push ..
  have g := Heap.get?_push_size (s.heap.push o) (o := { cls := .type "enumerate", data := .fields #[.none, .bool false, .ref s.heap.objs.size, rawInt 0, .none, .none] }) rfl
  rw [hz] at g
  have he : IsEnum ((s.heap.push o).push { cls := .type "enumerate", data := .fields #[.none, .bool false, .ref s.heap.objs.size, rawInt 0, .none, .none] }) (s.heap.objs.size + 1) s.heap.objs.size 0 .none := g
  refine callType_new PySem.F.called_enumerate (by decide) (PySem.F.typeCall_enumerate_1 _) (PySem.F.newCall_enumerate_1 _) (fun obj => PySem.F.args_object_init_2 obj _) PySem.F.entry_enumerate_new (meets_enum1 B) ⟨h1, ?_⟩
  show _ ∧ _
  rw [hz]
  exact ⟨⟨_, he, rfl⟩, h _ he (Heap.get?_push_of_some _ (Heap.get?_push_size _ B.free)) fun b o x => Heap.get?_push_of_some _ (Heap.get?_push_of_some _ x)⟩
/-- a tuple, each item in a new pair with its number -/
def IteT (K : PySem.W.Frag) (a : Addr) : It where
  go i H := ∃ (xs : List V) (x : V), SqT K H a xs ∧ xs[i]? = some x
  yld i H v H' := ∃ T x, v = .ref T ∧ H T = none ∧ H' = upd H T (.tup [.int (i : Nat), x]) ∧ ∀ xs, SqT K H a xs → xs[i]? = some x
  stop i H := ∃ xs : List V, SqT K H a xs ∧ xs.length ≤ i
theorem turn_enumT {P : Program} {w : World} {K : PySem.W.Frag} {elts : List Expr} {kk : Nat} {tpos : Pos} (a e it : Addr) (hai : a ≠ it) (hae : a ≠ e) :
    Turn P w K (.Tuple elts kk tpos) (IteT K a) [e, it] e (fun i h => (∃ old, IsEnum h e it ((i : Nat) : Int) old) ∧ h.IsTupleIter it a i ∧ e ≠ it) where
  mem := by simp
  obj := fun i h st b hb => by
    obtain ⟨⟨old, he⟩, ⟨o, ho, hc, hd⟩, _⟩ := st
    rcases (show b = e ∨ b = it by simpa using hb) with z | z
    · rw [z]; exact ⟨_, he, fun v q => nomatch q⟩
    · rw [z]; exact ⟨o, ho, fun v q => by rw [hd] at q; cases q⟩
  keep := fun i h h' st k => by
    obtain ⟨⟨old, he⟩, hi, hne⟩ := st
    exact ⟨⟨old, k e (by simp) _ he⟩, hi.at fun o q => k it (by simp) o q, hne⟩
  item := by
    intro X hP hw hK hc i pins s σ H E I hf st hg
    subst hP; subst hw; subst hK
    obtain ⟨⟨old, he⟩, hit, hne⟩ := st
    obtain ⟨xs, x, hq, hx⟩ := hg
    obtain ⟨its, rv, p, hz⟩ := I.tuple hq
    obtain ⟨u, hu, ru⟩ := rv.get hx
    have hel : e < s.heap.objs.size := Heap.lt_size he
    have hil : it < s.heap.objs.size := by obtain ⟨_, q, _⟩ := hit; exact Heap.lt_size q
    have D := Draws.tuple (prog := X.prog) (w := X.w) (A := X.A.in1) (I.ok.hd hc) it a hai its.toArray
    have hlt : i < its.toArray.size := by rw [List.size_toArray]; exact (List.getElem?_eq_some_iff.mp hu).1
    refine wpAny_pyNext_enum_itemD D he ⟨hit, p⟩ hlt hne (by simp [hne, Ne.symm hae]) fun y h' tk hP ho hit' hT hsz hk => ?_
    have ey : y = u := by
      have hP : its[i]? = some y := by simpa using hP
      rw [hu] at hP
      exact (Option.some.inj hP).symm
    subst ey
    refine ⟨_, rfl, wpAny_letOwnedTupleGo_enum (s := { s with heap := h', toks := tk + 1 }) ho fun h'' he' sb => ?_⟩
    have hT2 : h''.get? s.heap.objs.size = some { cls := .type "tuple", data := .seq #[.int i tk, y] } := (sb.2 _ (Nat.ne_of_gt hel)).trans hT
    have new : ObjOk X.prog X.w (upd H s.heap.objs.size (.tup [.int (i : Nat), x])) h'' s.heap.objs.size (.tup [.int (i : Nat), x]) := ⟨by show 2 ≤ sizeLine; decide, [.int i tk, y], .cons ⟨_, rfl⟩ (.cons ru .nil), ⟨_, hT2, rfl, _, rfl⟩⟩
    have I1 : Inv X pins σ (upd H s.heap.objs.size (.tup [.int (i : Nat), x])) { s with heap := h'', toks := tk + 1 } :=
      I.turnedNew (ch := [e, it]) (fun b ob hb q => (sb.2 b (fun z => hb (by simp [z]))).trans (hk b ob (fun z => hb (by simp [z])) (fun z => hb (by simp [z])) q)) hf (Nat.le_refl _) new
    refine ⟨.ref s.heap.objs.size, _, I1, rfl, ⟨_, x, rfl, I.hok.fresh (Nat.le_refl _), rfl, fun ys hy => by rw [I.tuple_inj hy hq]; exact hx⟩, ⟨⟨y, ?_⟩, hit'.1.at fun o q => (sb.2 it (Ne.symm hne)).trans q, hne⟩, fun b hb => ?_⟩
    · rw [show ((i + 1 : Nat) : Int) = (i : Int) + 1 by omega]
      exact he'
    · have hb' : b < s.heap.objs.size := by
        rcases (show b = e ∨ b = it by simpa using hb) with z | z
        · rw [z]; exact hel
        · rw [z]; exact hil
      rw [upd_ne (Nat.ne_of_lt hb')]
      exact (hf b hb).1
  done := by
    intro X hP hw hK hc i pins s σ H E I hf st hg
    subst hP; subst hw; subst hK
    obtain ⟨⟨old, he⟩, hit, hne⟩ := st
    obtain ⟨xs, hq, hx⟩ := hg
    obtain ⟨its, rv, p, hz⟩ := I.tuple hq
    obtain ⟨f0, f1, f2, f3, f4, f5⟩ := hf it (by simp)
    have hl := rv.length
    have D : Draws X.prog X.w X.A.in1 it [it, a] 0 (fun _ _ => False) (fun _ h => h.IsTupleIter it a i ∧ h.IsTuple a its.toArray) :=
      { live := fun _ _ q => let ⟨o, ho, _⟩ := q.1; ⟨o, ho⟩, frame := fun _ _ _ q hk => ⟨q.1.at fun o e => hk it (by simp) o e, q.2.at fun o e => hk a (by simp) o e⟩, item := fun _ _ _ _ z => absurd z (Nat.not_lt_zero _), done := fun s Q E q hE => wpAny_nextOf_tuple_end (I.ok.hd hc) q.1 q.2 (by simp; omega) hE }
    exact wpAny_pyNext_enum_endD D he ⟨hit, p⟩ fun h' eb => ⟨rfl, I.turned (t' := s.toks) (fun b o hb q => eb b o hb q) f0 f1 f3 f4 f5⟩
  self := fun A i s Q E st h => by
    obtain ⟨⟨_, he⟩, _⟩ := st
    exact wpAny_pyIter_enum he h
def iEnumT (K : PySem.W.Frag) (ta : TA) : TI := fun σ H R => ta σ H fun vs H1 => ∃ a xs, vs = [.ref a] ∧ SqT K H1 a xs ∧ R (IteT K a) H1
theorem pi_enumT {X : Cx} {e : Expr} {ta : TA} {p pos tpos : Pos} {elts : List Expr} {kk : Nat} (hg : Gl X "enumerate") (hm : X.mg "enumerate" = none) (ha : PA X [e] ta) (hs : starEach [e] X.env = [(false, eval e X.env)] := by rfl) : PI X (.Tuple elts kk tpos) (.Call (.Name "enumerate" p) [e] [] pos) (iEnumT X.K ta) := by
  refine ⟨fun pins s σ H R I h => ?_⟩
  refine Call_ (ld_blt I hg hm boot_enumerate (PyProof.Rows.callWith_type1 (thn (ha.run pos pins s σ H _ I h) fun us s1 hv => ?_) hs rfl))
  obtain ⟨vs, H1, I1, r1, a, xs, rfl, hq, q⟩ := hv
  rw [Vals.ref1 r1]
  obtain ⟨its, rv, p', hz⟩ := I1.tuple hq
  have hal : a < s1.heap.objs.size := by obtain ⟨o, ho, _⟩ := id p'; exact Heap.lt_size ho
  refine call_enum1 (begins_tuple a its.toArray) p' fun h' he hit hk => wpAny_pyIter_enum he ?_
  have I2 : Inv X pins σ H1 { s1 with heap := h' } := I1.kept (t' := s1.toks) hk
  refine ⟨s1.heap.objs.size + 1, [s1.heap.objs.size + 1, s1.heap.objs.size], _, _, H1, rfl, I2, turn_enumT a (s1.heap.objs.size + 1) s1.heap.objs.size (Nat.ne_of_lt hal) (Nat.ne_of_lt (Nat.lt_succ_of_lt hal)), ⟨⟨.none, he⟩, ⟨_, hit, rfl, rfl⟩, Nat.succ_ne_self _⟩, fun b hb => ?_, q⟩
  have hle : s1.heap.objs.size ≤ b := by
    rcases (show b = s1.heap.objs.size + 1 ∨ b = s1.heap.objs.size by simpa using hb) with z | z
    · rw [z]; exact Nat.le_add_right _ _
    · rw [z]; exact Nat.le_refl _
  exact I1.fpOk hle (I1.hok.fresh hle)
section
variable {M : Md} {X : Cx} {W : WX} {N : List Str} {sc : Sco} {k kf : Nat} {ρ ρ' ρ'' : List Sl} {d d1 d2 d3 : PyData} {ds es' : List PyData} {e o a b c' : Expr} {es : List Expr} {pos p2 p3 p4 p5 apos : Pos} {x y z : Str} {bb : Bool} {i : Nat}
def enumD (ds : List PyData) : List PyData := (List.range ds.length).zipWith (fun i d => .tuple [.int (i : Nat), d]) ds
theorem enumD_get {i : Nat} (h : (enumD ds)[i]? = some d) : ∃ u, ds[i]? = some u ∧ d = .tuple [.int (i : Nat), u] := by
  unfold enumD at h
  rw [List.getElem?_zipWith] at h
  cases h2 : ds[i]? with
  | none => rw [h2] at h; cases hr : (List.range ds.length)[i]? <;> rw [hr] at h <;> cases h
  | some u =>
    have hi := (List.getElem?_eq_some_iff.mp h2).1
    rw [h2, List.getElem?_range hi] at h
    cases h
    exact ⟨u, rfl, rfl⟩
theorem enumD_len : (enumD ds).length = ds.length := by unfold enumD; rw [List.length_zipWith, List.length_range, Nat.min_self]
theorem di_enumT {elts : List Expr} {kk : Nat} {tpos q : Pos} (c : Cv M N sc X) (hm : M.mg "enumerate" = none) (ha : DE M X e ρ (.tuple ds)) (hs : starEach [e] X.env = [(false, eval e X.env)] := by rfl) (hg : glB sc "enumerate" = true := by decide +kernel) : DI M X (.Tuple elts kk tpos) (.Call (.Name "enumerate" q) [e] [] pos) ρ (enumD ds) :=
  di_of (pi_enumT (c.gl hg) (by rw [c.eg]; exact hm) (pa_cons pe_sem pa_nil hs) hs) fun B F σ H I Rk r => ha B F σ H I _ fun v H1 B1 s I1 p => by
    cases p with
    | tup sq al =>
      rename_i a1 xs
      refine ⟨a1, xs, rfl, by rw [c.eK]; exact Evl.ex_t I1.bh sq, r _ H1 B1 s I1 fun B4 F4 H4 σ4 ρ4 s4 I4 => ?_⟩
      have q1 : SqT X.K H4 a1 xs := by rw [c.eK]; exact Evl.ex_t (s4.trans I4.bh) sq
      refine ⟨fun i d hd => ?_, ⟨xs, q1, by rw [enumD_len, dpa_len al]; exact Nat.le_refl _⟩⟩
      obtain ⟨u, hu, rfl⟩ := enumD_get hd
      obtain ⟨v, hv, pv⟩ := dpa_getd al i u hu
      refine ⟨⟨xs, v, q1, hv⟩, fun x H5 hy => ?_⟩
      obtain ⟨T, v', rfl, hT0, rfl, g1⟩ := hy
      have e1 : v' = v := Option.some.inj ((g1 xs q1).symm.trans hv)
      subst e1
      obtain ⟨s5, I5⟩ := I4.new (o := .tup [.int (i : Nat), v']) hT0
      exact ⟨_, s5, I5, .tup (.inl (.inl upd_same)) (.cons (.int _) (.cons (dp_mono (s4.trans s5) pv) .nil))⟩
theorem di_enumL {elts : List Expr} {kk : Nat} {tpos q : Pos} (c : Cv M N sc X) (hm : M.mg "enumerate" = none) (ha : DE M X e ρ (.list ds)) (hs : starEach [e] X.env = [(false, eval e X.env)] := by rfl) (hg : glB sc "enumerate" = true := by decide +kernel) : DI M X (.Tuple elts kk tpos) (.Call (.Name "enumerate" q) [e] [] pos) ρ (enumD ds) :=
  di_of (pi_enum (c.gl hg) (by rw [c.eg]; exact hm) (pa_cons pe_sem pa_nil hs) hs) fun B F σ H I Rk r => ha B F σ H I _ fun v H1 B1 s I1 p => by
    cases p with
    | lst sq al =>
      rename_i a1 xs
      refine ⟨a1, xs, rfl, SqL.of (I1.bh _ _ sq), r _ H1 B1 s I1 fun B4 F4 H4 σ4 ρ4 s4 I4 => ?_⟩
      have q1 : SqL X.K H4 a1 xs := SqL.of ((s4.trans I4.bh) _ _ sq)
      refine ⟨fun i d hd => ?_, ⟨xs, q1, by rw [enumD_len, dpa_len al]; exact Nat.le_refl _⟩⟩
      obtain ⟨u, hu, rfl⟩ := enumD_get hd
      obtain ⟨v, hv, pv⟩ := dpa_getd al i u hu
      refine ⟨⟨xs, v, q1, hv⟩, fun x H5 hy => ?_⟩
      obtain ⟨T, v', rfl, hT0, rfl, g1⟩ := hy
      have e1 : v' = v := Option.some.inj ((g1 xs q1).symm.trans hv)
      subst e1
      obtain ⟨s5, I5⟩ := I4.new (o := .tup [.int (i : Nat), v']) hT0
      exact ⟨_, s5, I5, .tup (.inl (.inl upd_same)) (.cons (.int _) (.cons (dp_mono (s4.trans s5) pv) .nil))⟩
/-! ### text.index(sign) -/
theorem occ_stay (s sub : Str) (hi : Nat) : ∀ (l : List Nat) (st : Array Nat × Nat), 1 ≤ st.fst.size → (forIn l st (StrLaws.occBody s sub hi 1)).run.fst = st.fst
  | [], _, _ => rfl
  | a :: l, st, h => by
    rw [List.forIn_cons]
    unfold StrLaws.occBody
    rw [if_neg (fun z => by have := z.1.1.1; omega)]
    exact occ_stay s sub hi l (st.fst, st.snd) h
theorem occ_first (s sub : Str) (hi j : Nat) (l2 : List Nat) (hj : j + sub.length ≤ hi ∧ Builtin.Str.subAt s sub j = true) : ∀ (l1 : List Nat) (free : Nat), (∀ i ∈ l1, free ≤ i ∧ ¬ (i + sub.length ≤ hi ∧ Builtin.Str.subAt s sub i = true)) → free ≤ j → (forIn (l1 ++ j :: l2) ((#[] : Array Nat), free) (StrLaws.occBody s sub hi 1)).run.fst = #[j]
  | [], free, _, hf => by
    rw [List.nil_append, List.forIn_cons]
    unfold StrLaws.occBody
    rw [if_pos ⟨⟨⟨by simp, hf⟩, hj.1⟩, hj.2⟩]
    exact occ_stay s sub hi l2 _ (by simp)
  | a :: l1, free, h, hf => by
    rw [List.cons_append, List.forIn_cons]
    unfold StrLaws.occBody
    rw [if_neg (fun z => (h a List.mem_cons_self).2 ⟨z.1.2, z.2⟩)]
    exact occ_first s sub hi j l2 hj l1 free (fun i hi' => h i (List.mem_cons_of_mem _ hi')) hf
theorem occ_idx {t : List Nat} {q k : Nat} (hk : t[k]? = some q) (hn : ∀ i, i < k → t[i]? ≠ some q) : Builtin.Str.occurrences ⟨t.toArray⟩ ⟨#[q]⟩ 0 (⟨t.toArray⟩ : Str).length 1 = [k] := by
  have hl : (⟨t.toArray⟩ : Str).length = t.length := by show t.toArray.size = _; simp
  have hkl := (List.getElem?_eq_some_iff.mp hk).1
  rw [StrLaws.occ_eq]
  have e : List.range' 0 ((⟨t.toArray⟩ : Str).length + 1 - 0) = List.range' 0 k ++ k :: List.range' (k + 1) (t.length - k) := by
    rw [hl, show t.length + 1 - 0 = k + (t.length - k + 1) by omega, ← List.range'_append_1, Nat.zero_add, List.range'_succ]
  rw [e]
  have h1 := occ_first ⟨t.toArray⟩ ⟨#[q]⟩ (⟨t.toArray⟩ : Str).length k (List.range' (k + 1) (t.length - k)) ((StrLaws.subAt_one ⟨t.toArray⟩ q k).mpr (by simpa using hk)) (List.range' 0 k) 0 (fun i hi => ⟨Nat.zero_le _, fun z => hn i (by simp [List.mem_range'] at hi; omega) (by have := (StrLaws.subAt_one ⟨t.toArray⟩ q i).mp z; simpa using this)⟩) (Nat.zero_le _)
  rw [h1]
theorem de_sindex {t : List Nat} {q j : Nat} (ho : DE M X o ρ (S t)) (he : DE M X e ρ (S [q])) (hk : t[j]? = some q) (hn : ∀ i, i < j → t[i]? ≠ some q)
    (hs : starEach [e] X.env = [(false, eval e X.env)] := by rfl) (hbase : attributeBase o "index" X.env (eval o X.env) = eval o X.env := by rfl) (hline : (apos.endLine == pos.line) = true := by rfl) : DE M X (.Call (.Attribute o "index" apos) [e] [] pos) ρ (.int (j : Nat)) :=
  de_m1 PySem.F.slot_str_index PySem.F.type_str_index ho he ⟨_, mt_sindex, fun B F σ H ρ v vs I p0 p Q k => by
    cases p0
    obtain ⟨v1, rfl, p1⟩ := inv_all1 p
    cases p1
    exact ⟨_, _, j, [], rfl, rfl, occ_idx hk hn, k _ _ _ (Same.refl B) I (.int _)⟩⟩ hs hbase hline
end
end Dl

/-! The R layer: a plain evaluator. Each expression, each statement of a def is told by a function of the slots; that it is so is shown once, construct by construct. -/
namespace Rl
open PySem PySem.Spec PyProof.Rows L2 Dl

inductive RO where
  | ret (d : PyData)
  | exc (c : Nat)
def RO.out (xa : Nat → Addr) : RO → Out
  | .ret d => .ret d
  | .exc c => .exc (xa c)
inductive RL where
  | vs (ds : List PyData)
  | exc (c : Nat)
abbrev RE := List Sl → Option RO
abbrev RT := List Sl → Option Bool
abbrev RA := List Sl → Option RL
abbrev RN := List Sl → Option (List PyData)
inductive Res where
  | nx (ρ : List Sl)
  | rt (d : PyData) (ρ : List Sl)
  | ex (c : Nat) (ρ : List Sl)
  | bk (ρ : List Sl)
  | ct (ρ : List Sl)
abbrev RS := List Sl → Option Res

def bE (o : Option RO) (f : PyData → Option RO) : Option RO := match o with
  | some (.ret d) => f d
  | some (.exc c) => some (.exc c)
  | none => none
def vE {β : Type} (o : Option RO) (f : PyData → Option β) : Option β := match o with
  | some (.ret d) => f d
  | _ => none
def bA (o : Option RL) (f : List PyData → Option RO) : Option RO := match o with
  | some (.vs d) => f d
  | some (.exc c) => some (.exc c)
  | none => none
def bS (o : Option RO) (ρ : List Sl) (f : PyData → Option Res) : Option Res := match o with
  | some (.ret d) => f d
  | some (.exc c) => some (.ex c ρ)
  | none => none
def bAS (o : Option RL) (ρ : List Sl) (f : List PyData → Option Res) : Option Res := match o with
  | some (.vs d) => f d
  | some (.exc c) => some (.ex c ρ)
  | none => none
theorem bE_ret {d : PyData} {f : PyData → Option RO} : bE (some (.ret d)) f = f d := rfl
theorem bE_exc {c : Nat} {f : PyData → Option RO} : bE (some (.exc c)) f = some (.exc c) := rfl
theorem vE_ret {β : Type} {d : PyData} {f : PyData → Option β} : vE (some (.ret d)) f = f d := rfl
theorem bA_vs {d : List PyData} {f : List PyData → Option RO} : bA (some (.vs d)) f = f d := rfl
theorem bS_ret {d : PyData} {ρ : List Sl} {f : PyData → Option Res} : bS (some (.ret d)) ρ f = f d := rfl
theorem bS_exc {c : Nat} {ρ : List Sl} {f : PyData → Option Res} : bS (some (.exc c)) ρ f = some (.ex c ρ) := rfl
theorem bAS_vs {d : List PyData} {ρ : List Sl} {f : List PyData → Option Res} : bAS (some (.vs d)) ρ f = f d := rfl
theorem bE_inv {o : Option RO} {f : PyData → Option RO} {d : PyData} (h : bE o f = some (.ret d)) : ∃ a, o = some (.ret a) ∧ f a = some (.ret d) := by
  unfold bE at h
  split at h
  · exact ⟨_, rfl, h⟩
  · cases h
  · cases h
theorem bE_invX {o : Option RO} {f : PyData → Option RO} {c : Nat} (h : bE o f = some (.exc c)) : o = some (.exc c) ∨ ∃ a, o = some (.ret a) ∧ f a = some (.exc c) := by
  unfold bE at h
  split at h
  · exact .inr ⟨_, rfl, h⟩
  · exact .inl h
  · cases h
theorem vE_inv {β : Type} {o : Option RO} {f : PyData → Option β} {d : β} (h : vE o f = some d) : ∃ a, o = some (.ret a) ∧ f a = some d := by
  unfold vE at h
  split at h
  · exact ⟨_, rfl, h⟩
  · cases h
theorem bA_inv {o : Option RL} {f : List PyData → Option RO} {d : PyData} (h : bA o f = some (.ret d)) : ∃ a, o = some (.vs a) ∧ f a = some (.ret d) := by
  unfold bA at h
  split at h
  · exact ⟨_, rfl, h⟩
  · cases h
  · cases h
theorem bA_invX {o : Option RL} {f : List PyData → Option RO} {c : Nat} (h : bA o f = some (.exc c)) : o = some (.exc c) ∨ ∃ a, o = some (.vs a) ∧ f a = some (.exc c) := by
  unfold bA at h
  split at h
  · exact .inr ⟨_, rfl, h⟩
  · exact .inl (by cases h; rfl)
  · cases h
theorem bS_inv {o : Option RO} {ρ : List Sl} {f : PyData → Option Res} {r : Res} (h : bS o ρ f = some r) : (∃ c, o = some (.exc c) ∧ r = .ex c ρ) ∨ ∃ a, o = some (.ret a) ∧ f a = some r := by
  unfold bS at h
  split at h
  · exact .inr ⟨_, rfl, h⟩
  · exact .inl ⟨_, rfl, by cases h; rfl⟩
  · cases h
theorem bAS_inv {o : Option RL} {ρ : List Sl} {f : List PyData → Option Res} {r : Res} (h : bAS o ρ f = some r) : (∃ c, o = some (.exc c) ∧ r = .ex c ρ) ∨ ∃ a, o = some (.vs a) ∧ f a = some r := by
  unfold bAS at h
  split at h
  · exact .inr ⟨_, rfl, h⟩
  · exact .inl ⟨_, rfl, by cases h; rfl⟩
  · cases h
theorem map_ret {o : Option PyData} {d : PyData} (h : o.map RO.ret = some (.ret d)) : o = some d := by
  cases o with
  | none => cases h
  | some a => cases h; rfl
theorem map_exc {o : Option PyData} {c : Nat} (h : o.map RO.ret = some (.exc c)) : False := by
  cases o with
  | none => cases h
  | some a => cases h

/-! ### slots -/
def gS : List Sl → Nat → Option PyData
  | [], _ => none
  | s :: _, 0 => match s with
    | .v d => some d
    | _ => none
  | _ :: r, n + 1 => gS r n
def sS : List Sl → Nat → Sl → Option (List Sl)
  | [], _, _ => none
  | _ :: r, 0, s => some (s :: r)
  | x :: r, n + 1, s => (sS r n s).map (x :: ·)
theorem gS_get : ∀ {ρ : List Sl} {i : Nat} {d : PyData}, gS ρ i = some d → Get i (.v d) ρ
  | [], _, _, h => by cases h
  | s :: r, 0, d, h => by
    cases s with
    | v e => cases h; exact .z
    | _ => cases h
  | s :: r, i + 1, d, h => .s (gS_get (ρ := r) h)
theorem sS_set : ∀ {ρ : List Sl} {i : Nat} {s : Sl} {ρ' : List Sl}, sS ρ i s = some ρ' → SetAt i s ρ ρ'
  | [], _, _, _, h => by cases h
  | x :: r, 0, s, _, h => by cases h; exact .z
  | x :: r, i + 1, s, ρ', h => by
    unfold sS at h
    cases e : sS r i s with
    | none => rw [e] at h; cases h
    | some r' =>
      rw [e] at h
      cases h
      exact .s (sS_set e)
theorem sS_z {x s : Sl} {r : List Sl} : sS (x :: r) 0 s = some (s :: r) := rfl
theorem sS_s {x s : Sl} {r : List Sl} {n : Nat} : sS (x :: r) (n + 1) s = (sS r n s).map (x :: ·) := rfl
theorem gS_z {d : PyData} {r : List Sl} : gS (.v d :: r) 0 = some d := rfl
theorem gS_s {x : Sl} {r : List Sl} {n : Nat} : gS (x :: r) (n + 1) = gS r n := rfl

/-! ### judgements -/
def DX (M : Md) (X : Cx) (W : WX) (e : Expr) (ρ : List Sl) (C : Addr) : Prop := ∀ B F σ H, EnvB M.K B F H σ ρ → (∀ H' B', Same B B' → EnvB M.K B' F H' σ ρ → W (.ref C) none σ H') → ∀ Q, semE X e σ H Q
def DAX (M : Md) (X : Cx) (W : WX) (es : List Expr) (ρ : List Sl) (C : Addr) : Prop := ∀ B F σ H, EnvB M.K B F H σ ρ → (∀ H' B', Same B B' → EnvB M.K B' F H' σ ρ → W (.ref C) none σ H') → ∀ Q, semA X es σ H Q
structure SE (M : Md) (k : Nat) (N : List Str) (xa : Nat → Addr) (sc : Sco) (e : Expr) (r : RE) : Prop where
  ok : ∀ X W, Cn M k N sc X W → ∀ ρ d, r ρ = some (.ret d) → DE M X e ρ d
  ex : ∀ X W, Cn M k N sc X W → ∀ ρ c, r ρ = some (.exc c) → DX M X W e ρ (xa c)
structure ST (M : Md) (k : Nat) (N : List Str) (xa : Nat → Addr) (sc : Sco) (e : Expr) (t : RT) : Prop where
  ok : ∀ X W, Cn M k N sc X W → ∀ ρ b, t ρ = some b → DT M X e ρ b
structure SW (M : Md) (k : Nat) (N : List Str) (xa : Nat → Addr) (sc : Sco) (e : Expr) (t : RT) : Prop where
  ok : ∀ X W, Cn M k N sc X W → ∀ ρ b, t ρ = some b → DW M X e ρ b
structure SA (M : Md) (k : Nat) (N : List Str) (xa : Nat → Addr) (sc : Sco) (es : List Expr) (r : RA) : Prop where
  ok : ∀ X W, Cn M k N sc X W → ∀ ρ ds, r ρ = some (.vs ds) → DA M X es ρ ds
  ex : ∀ X W, Cn M k N sc X W → ∀ ρ c, r ρ = some (.exc c) → DAX M X W es ρ (xa c)
structure SN (M : Md) (k : Nat) (N : List Str) (xa : Nat → Addr) (sc : Sco) (e : Expr) (r : RN) : Prop where
  ok : ∀ X W, Cn M k N sc X W → ∀ ρ ds, r ρ = some ds → DN M X e ρ ds
structure SL (M : Md) (k : Nat) (N : List Str) (xa : Nat → Addr) (sc : Sco) (e : Expr) (r : RN) : Prop where
  ok : ∀ X W, Cn M k N sc X W → ∀ ρ ds, r ρ = some ds → DL M N sc X W e ρ ds
structure SI (M : Md) (k : Nat) (N : List Str) (xa : Nat → Addr) (sc : Sco) (tg e : Expr) (r : RA) : Prop where
  ok : ∀ X W, Cn M k N sc X W → ∀ ρ ds, r ρ = some (.vs ds) → DI M X tg e ρ ds
  ex : ∀ X W, Cn M k N sc X W → ∀ ρ c, r ρ = some (.exc c) → ∀ B F σ H, EnvB M.K B F H σ ρ → (∀ H' B', Same B B' → EnvB M.K B' F H' σ ρ → W (.ref (xa c)) none σ H') → ∀ Q, semI X tg e σ H Q
structure SG (M : Md) (k : Nat) (N : List Str) (sc : Sco) (tg : Expr) (p : Pat) : Prop where
  ok : ∀ X W, Cn M k N sc X W → PG X tg (gPat M.K p)
def ends (xa : Nat → Addr) (r : Res) : REnds := { rt := fun d ρ' => r = .rt d ρ', ex := fun C ρ' => ∃ c, C = xa c ∧ r = .ex c ρ', bk := fun ρ' => r = .bk ρ', ct := fun ρ' => r = .ct ρ' }
structure SS (M : Md) (k : Nat) (N : List Str) (xa : Nat → Addr) (sc : Sco) (tr : Bool) (st : Stmt) (s : RS) : Prop where
  ok : ∀ X W, Cn M k N sc X W → (tr = true → Tr X) → ∀ ρ r, s ρ = some r → DS M X W st ρ (fun ρ' => r = .nx ρ') (ends xa r)
structure SB (M : Md) (k : Nat) (N : List Str) (xa : Nat → Addr) (sc : Sco) (tr : Bool) (st : List Stmt) (s : RS) : Prop where
  ok : ∀ X W, Cn M k N sc X W → (tr = true → Tr X) → ∀ ρ r, s ρ = some r → DB M X W st ρ (fun ρ' => r = .nx ρ') (ends xa r)

section
variable {M : Md} {k kf : Nat} {N : List Str} {xa : Nat → Addr} {sc : Sco} {scope : Scope} {tr : Bool} {e a b c' o elt tg iter : Expr} {es ifs : List Expr} {st : Stmt} {sts body : List Stmt} {pos p2 p3 p4 p5 apos : Pos} {x y z : Str} {i j l : Nat} {X : Cx} {W : WX} {ρ : List Sl} {C : Addr}
variable {ra rb rc re : RE} {rt : RT} {rs : RA} {rn : RN} {s s1 s2 : RS} {p : Pat}
theorem dx_of {t : TE} (h : PE X e t) (hv : ∀ B F σ H, EnvB M.K B F H σ ρ → (∀ H' B', Same B B' → EnvB M.K B' F H' σ ρ → W (.ref C) none σ H') → ∀ Q, t σ H Q) : DX M X W e ρ C := fun B F σ H I q Q pins s iv => h.run pins s σ H Q iv (hv B F σ H I q Q)
theorem dax_of {t : TA} (h : PA X es t) (hv : ∀ B F σ H, EnvB M.K B F H σ ρ → (∀ H' B', Same B B' → EnvB M.K B' F H' σ ρ → W (.ref C) none σ H') → ∀ Q, t σ H Q) : DAX M X W es ρ C := fun B F σ H I q Q pos pins s iv => h.run pos pins s σ H Q iv (hv B F σ H I q Q)

/-! ### names, constants -/
def rVar (i : Nat) : RE := fun ρ => (gS ρ i).map .ret
theorem se_var (hi : Get i x N) (hv : (visB sc x && okN x) = true := by decide +kernel) : SE M k N xa sc (.Name x pos) (rVar i) :=
  ⟨fun X W c ρ d h => dv c.toCv hi (gS_get (map_ret h)) hv, fun X W c ρ c' h => (map_exc h).elim⟩
def rK (d : PyData) : RE := fun _ => some (.ret d)
theorem se_k {d : PyData} (h : ∀ X ρ, DE M X e ρ d) : SE M k N xa sc e (rK d) := ⟨fun X W c ρ d' e => by cases e; exact h X ρ, fun X W c ρ c' h => by cases h⟩
theorem se_int {n : Int} {j} : SE M k N xa sc (.Constant (.int n) j pos) (rK (.int n)) := se_k fun _ _ => de_int
theorem se_bl {n : Bool} {j} : SE M k N xa sc (.Constant (.bool n) j pos) (rK (.bool n)) := se_k fun _ _ => de_bl
theorem se_non {j} : SE M k N xa sc (.Constant .none j pos) (rK .none) := se_k fun _ _ => de_non
theorem se_str {y : Str} {j} (t : List Nat) (h : y = ⟨t.toArray⟩) : SE M k N xa sc (.Constant (.str y) j pos) (rK (S t)) := se_k fun _ _ => de_strS t h
theorem se_glob {v : V} {u : Value} {d : PyData} (hm : M.mg x = some u) (r : RelV v u) (hd : ∀ B, Dq M.K B v d) (hv : (glB sc x && okN x) = true := by decide +kernel) : SE M k N xa sc (.Name x pos) (rK d) :=
  ⟨fun X W c ρ d' e => by cases e; exact de_glob c.toCv hm r hd hv, fun X W c ρ c' h => by cases h⟩

/-! ### operators -/
def Ok2 (M : Md) (k : Nat) (N : List Str) (g : Value → Value → Sem Value) (f : PyData → PyData → Option PyData) : Prop := ∀ sc X W, Cn M k N sc X W → ∀ d1 d2 d, f d1 d2 = some d → Op2 M X g d1 d2 d
def OkC (M : Md) (k : Nat) (N : List Str) (g : Value → Value → Sem Value) (f : PyData → PyData → Option Bool) : Prop := ∀ sc X W, Cn M k N sc X W → ∀ d1 d2 b, f d1 d2 = some b → Op2 M X g d1 d2 (.bool b)
def rBin (f : PyData → PyData → Option PyData) (a b : RE) : RE := fun ρ => bE (a ρ) fun d1 => bE (b ρ) fun d2 => (f d1 d2).map .ret
theorem opr_no {g : Value → Value → Sem Value} : OpR X g (fun _ _ _ _ => False) := fun _ _ _ _ _ _ _ _ _ _ _ _ z => z.elim
theorem se_bin {op : Operator} {f : PyData → PyData → Option PyData} (ho : Ok2 M k N (binaryOp op) f) (ha : SE M k N xa sc a ra) (hb : SE M k N xa sc b rb) : SE M k N xa sc (.BinOp a op b pos) (rBin f ra rb) where
  ok X W c ρ d h := by
    obtain ⟨d1, h1, h⟩ := bE_inv h
    obtain ⟨d2, h2, h⟩ := bE_inv h
    exact de_bin (ha.ok X W c ρ d1 h1) (hb.ok X W c ρ d2 h2) (ho sc X W c d1 d2 d (map_ret h))
  ex X W c ρ c' h := by
    refine dx_of (pe_op opr_no pe_sem pe_sem) fun B F σ H I q Q => ?_
    rcases bE_invX h with h1 | ⟨d1, h1, h⟩
    · exact ha.ex X W c ρ c' h1 B F σ H I q _
    · rcases bE_invX h with h2 | ⟨d2, h2, h⟩
      · exact ha.ok X W c ρ d1 h1 B F σ H I _ fun v1 H1 B1 s1 I1 p1 => hb.ex X W c ρ c' h2 B1 F σ H1 I1 (fun H' B' s I' => q H' B' (s1.trans s) I') _
      · exact (map_exc h).elim
def tCmp (f : PyData → PyData → Option Bool) (a b : RE) : RT := fun ρ => vE (a ρ) fun d1 => vE (b ρ) fun d2 => f d1 d2
theorem st_cmp {op : CmpOp} {f : PyData → PyData → Option Bool} (ho : OkC M k N (compareOp op) f) (ha : SE M k N xa sc a ra) (hb : SE M k N xa sc b rb) (hm : behindInMarks op b = false := by rfl) : ST M k N xa sc (.Compare a [op] [b] pos) (tCmp f ra rb) where
  ok X W c ρ bb h := by
    obtain ⟨d1, h1, h⟩ := vE_inv h
    obtain ⟨d2, h2, h⟩ := vE_inv h
    exact dt_cmp (ha.ok X W c ρ d1 h1) (hb.ok X W c ρ d2 h2) (ho sc X W c d1 d2 bb h) hm
def rB (t : RT) : RE := fun ρ => (t ρ).map fun b => .ret (.bool b)
theorem rB_inv {t : RT} {d : PyData} (h : rB t ρ = some (.ret d)) : ∃ b, t ρ = some b ∧ d = .bool b := by
  unfold rB at h
  cases e : t ρ with
  | none => rw [e] at h; cases h
  | some b => rw [e] at h; cases h; exact ⟨b, rfl, rfl⟩
theorem rB_exc {t : RT} {c : Nat} (h : rB t ρ = some (.exc c)) : False := by
  unfold rB at h
  cases e : t ρ with
  | none => rw [e] at h; cases h
  | some b => rw [e] at h; cases h
theorem se_cmp {op : CmpOp} {f : PyData → PyData → Option Bool} (ho : OkC M k N (compareOp op) f) (ha : SE M k N xa sc a ra) (hb : SE M k N xa sc b rb) (hm : behindInMarks op b = false := by rfl) : SE M k N xa sc (.Compare a [op] [b] pos) (rB (tCmp f ra rb)) where
  ok X W c ρ d h := by
    obtain ⟨bb, h0, rfl⟩ := rB_inv h
    obtain ⟨d1, h1, h3⟩ := vE_inv h0
    obtain ⟨d2, h2, h4⟩ := vE_inv h3
    exact de_cmp (ha.ok X W c ρ d1 h1) (hb.ok X W c ρ d2 h2) (ho sc X W c d1 d2 bb h4) hm
  ex X W c ρ c' h := (rB_exc h).elim
/-- a < b < c -/
def tChain (f g : PyData → PyData → Option Bool) (a b c : RE) : RT := fun ρ => vE (a ρ) fun d1 => vE (b ρ) fun d2 => match f d1 d2 with
  | some true => vE (c ρ) fun d3 => g d2 d3
  | some false => some false
  | none => none
theorem st_chain {op op' : CmpOp} {f g : PyData → PyData → Option Bool} (ho : OkC M k N (compareOp op) f) (ho' : OkC M k N (compareOp op') g) (ha : SE M k N xa sc a ra) (hb : SE M k N xa sc b rb) (hc : SE M k N xa sc c' rc) (hm : lastMarks [op, op'] [b, c'] = false := by with_unfolding_all rfl) :
    ST M k N xa sc (.Compare a [op, op'] [b, c'] pos) (tChain f g ra rb rc) where
  ok X W c ρ bb h := by
    obtain ⟨d1, h1, h⟩ := vE_inv h
    obtain ⟨d2, h2, h⟩ := vE_inv h
    split at h
    · rename_i q
      obtain ⟨d3, h3, h⟩ := vE_inv h
      exact dt_chain (b1 := true) (b2 := bb) (ha.ok X W c ρ d1 h1) (hb.ok X W c ρ d2 h2) (ho sc X W c d1 d2 _ q) (fun _ => hc.ok X W c ρ d3 h3) (fun _ => ho' sc X W c d2 d3 _ h) hm rfl
    · rename_i q
      cases h
      exact dt_chain (b1 := false) (b2 := false) (d3 := .none) (ha.ok X W c ρ d1 h1) (hb.ok X W c ρ d2 h2) (ho sc X W c d1 d2 _ q) (fun z => by cases z) (fun z => by cases z) hm rfl
    · cases h

/-! ### truth -/
def truD (d : PyData) : Option Bool := match d with
  | .str s => if s.length ≤ sizeLine then some (tru (.str s)) else none
  | .dict _ => none
  | d => some (tru d)
theorem truD_ok {d : PyData} {b : Bool} (h : truD d = some b) : truOk d ∧ b = tru d := by
  unfold truD at h
  split at h
  · split at h
    · cases h; exact ⟨by assumption, rfl⟩
    · cases h
  · cases h
  · rename_i q q2
    cases h
    refine ⟨?_, rfl⟩
    cases d with
    | str s => exact absurd rfl (q s)
    | dict s => exact absurd rfl (q2 s)
    | _ => trivial
def tTru (a : RE) : RT := fun ρ => vE (a ρ) truD
theorem st_tru (ha : SE M k N xa sc e ra) (he : ∀ env whole, isTrue e env whole = (do let v ← whole; standAt e.pos; holding [v] (truthy v)) := by intro _ _; rfl) : ST M k N xa sc e (tTru ra) where
  ok X W c ρ b h := by
    obtain ⟨d, h1, h⟩ := vE_inv h
    obtain ⟨q, rfl⟩ := truD_ok h
    exact dt_tru c.toCv (ha.ok X W c ρ d h1) q (he X.env)
def tNot (t : RT) : RT := fun ρ => (t ρ).map (!·)
theorem map_not {o : Option Bool} {b : Bool} (h : o.map (!·) = some b) : ∃ b', o = some b' ∧ b = !b' := by
  cases o with
  | none => cases h
  | some b' => cases h; exact ⟨b', rfl, rfl⟩
theorem st_not (h : ST M k N xa sc a rt) : ST M k N xa sc (.UnaryOp .Not a pos) (tNot rt) where
  ok X W c ρ b hh := by
    obtain ⟨b', h1, rfl⟩ := map_not hh
    exact dt_not (h.ok X W c ρ b' h1)
theorem st_w (h : SW M k N xa sc e rt) : ST M k N xa sc e rt := ⟨fun X W c ρ b hh => dt_bool (h.ok X W c ρ b hh)⟩
def tAnd (t u : RT) : RT := fun ρ => match t ρ with
  | some true => u ρ
  | some false => some false
  | none => none
def tOr (t u : RT) : RT := fun ρ => match t ρ with
  | some true => some true
  | some false => u ρ
  | none => none
theorem sw_and1 (h : ST M k N xa sc a rt) : SW M k N xa sc (.BoolOp .And [a] pos) rt := ⟨fun X W c ρ b hh => dw_and1 (h.ok X W c ρ b hh)⟩
theorem sw_or1 (h : ST M k N xa sc a rt) : SW M k N xa sc (.BoolOp .Or [a] pos) rt := ⟨fun X W c ρ b hh => dw_or1 (h.ok X W c ρ b hh)⟩
theorem sw_and {ru : RT} (h : ST M k N xa sc a rt) (h2 : SW M k N xa sc (.BoolOp .And (b :: es) pos) ru) : SW M k N xa sc (.BoolOp .And (a :: b :: es) pos) (tAnd rt ru) := ⟨fun X W c ρ bb hh => by
  unfold tAnd at hh
  split at hh
  · rename_i q
    have := dw_and (b1 := true) (b2 := bb) (h.ok X W c ρ _ q) (fun _ => h2.ok X W c ρ bb hh)
    rwa [Bool.true_and] at this
  · rename_i q
    cases hh
    exact dw_and (b1 := false) (b2 := false) (h.ok X W c ρ _ q) (fun z => by cases z)
  · cases hh⟩
theorem sw_or {ru : RT} (h : ST M k N xa sc a rt) (h2 : SW M k N xa sc (.BoolOp .Or (b :: es) pos) ru) : SW M k N xa sc (.BoolOp .Or (a :: b :: es) pos) (tOr rt ru) := ⟨fun X W c ρ bb hh => by
  unfold tOr at hh
  split at hh
  · rename_i q
    cases hh
    exact dw_or (b1 := true) (b2 := true) (h.ok X W c ρ _ q) (fun z => by cases z)
  · rename_i q
    have := dw_or (b1 := false) (b2 := bb) (h.ok X W c ρ _ q) (fun _ => h2.ok X W c ρ bb hh)
    rwa [Bool.false_or] at this
  · cases hh⟩
/-- and, or as values, of bools -/
def bl1 (o : Option RO) : Option Bool := match o with
  | some (.ret (.bool b)) => some b
  | _ => none
theorem bl1_inv {o : Option RO} {b : Bool} (h : bl1 o = some b) : o = some (.ret (.bool b)) := by
  unfold bl1 at h
  split at h
  · cases h; rfl
  · cases h
def rAnd (a b : RE) : RE := fun ρ => match bl1 (a ρ) with
  | some true => (bl1 (b ρ)).map fun y => .ret (.bool y)
  | some false => some (.ret (.bool false))
  | none => none
def rOr (a b : RE) : RE := fun ρ => match bl1 (a ρ) with
  | some true => some (.ret (.bool true))
  | some false => (bl1 (b ρ)).map fun y => .ret (.bool y)
  | none => none
theorem mapb {o : Option Bool} {d : PyData} (h : (o.map fun y => RO.ret (.bool y)) = some (.ret d)) : ∃ b, o = some b ∧ d = .bool b := by
  cases o with
  | none => cases h
  | some b => cases h; exact ⟨b, rfl, rfl⟩
theorem mapbX {o : Option Bool} {c : Nat} (h : (o.map fun y => RO.ret (.bool y)) = some (.exc c)) : False := by
  cases o with
  | none => cases h
  | some b => cases h
theorem se_one {op} (h : SE M k N xa sc a ra) : SE M k N xa sc (.BoolOp op [a] pos) ra := ⟨fun X W c ρ d hh => de_one (h.ok X W c ρ d hh), fun X W c ρ c' hh => dx_of (pe_one pe_sem) fun B F σ H I q Q => h.ex X W c ρ c' hh B F σ H I q Q⟩
theorem se_and (h : SE M k N xa sc a ra) (h2 : SE M k N xa sc (.BoolOp .And (b :: es) pos) rb) : SE M k N xa sc (.BoolOp .And (a :: b :: es) pos) (rAnd ra rb) where
  ok X W c ρ d hh := by
    unfold rAnd at hh
    split at hh
    · rename_i q
      obtain ⟨b', h3, rfl⟩ := mapb hh
      have := de_and (b1 := true) (b2 := b') (h.ok X W c ρ _ (bl1_inv q)) (fun _ => h2.ok X W c ρ _ (bl1_inv h3))
      rwa [Bool.true_and] at this
    · rename_i q
      cases hh
      exact de_and (b1 := false) (b2 := false) (h.ok X W c ρ _ (bl1_inv q)) (fun z => by cases z)
    · cases hh
  ex X W c ρ c' hh := by
    unfold rAnd at hh
    split at hh
    · exact (mapbX hh).elim
    · cases hh
    · cases hh
theorem se_or (h : SE M k N xa sc a ra) (h2 : SE M k N xa sc (.BoolOp .Or (b :: es) pos) rb) : SE M k N xa sc (.BoolOp .Or (a :: b :: es) pos) (rOr ra rb) where
  ok X W c ρ d hh := by
    unfold rOr at hh
    split at hh
    · rename_i q
      cases hh
      exact de_or (b1 := true) (b2 := true) (h.ok X W c ρ _ (bl1_inv q)) (fun z => by cases z)
    · rename_i q
      obtain ⟨b', h3, rfl⟩ := mapb hh
      have := de_or (b1 := false) (b2 := b') (h.ok X W c ρ _ (bl1_inv q)) (fun _ => h2.ok X W c ρ _ (bl1_inv h3))
      rwa [Bool.false_or] at this
    · cases hh
  ex X W c ρ c' hh := by
    unfold rOr at hh
    split at hh
    · cases hh
    · exact (mapbX hh).elim
    · cases hh
def rNot (a : RE) : RE := fun ρ => (bl1 (a ρ)).map fun y => .ret (.bool (!y))
theorem se_not (h : SE M k N xa sc a ra) : SE M k N xa sc (.UnaryOp .Not a pos) (rNot ra) where
  ok X W c ρ d hh := by
    unfold rNot at hh
    cases q : bl1 (ra ρ) with
    | none => rw [q] at hh; cases hh
    | some b' =>
      rw [q] at hh
      cases hh
      exact de_not (h.ok X W c ρ _ (bl1_inv q))
  ex X W c ρ c' hh := by
    unfold rNot at hh
    cases q : bl1 (ra ρ) with
    | none => rw [q] at hh; cases hh
    | some b' => rw [q] at hh; cases hh
def rNeg (a : RE) : RE := fun ρ => vE (a ρ) fun d => match d with
  | .int m => some (.ret (.int (-m)))
  | _ => none
theorem se_neg (h : SE M k N xa sc a ra) : SE M k N xa sc (.UnaryOp .USub a pos) (rNeg ra) where
  ok X W c ρ d hh := by
    obtain ⟨d1, h1, hh⟩ := vE_inv hh
    split at hh
    · cases hh; exact de_neg (h.ok X W c ρ _ h1)
    · cases hh
  ex X W c ρ c' hh := by
    obtain ⟨d1, h1, hh⟩ := vE_inv hh
    split at hh
    · cases hh
    · cases hh
def rIf (t : RT) (a b : RE) : RE := fun ρ => match t ρ with
  | some true => a ρ
  | some false => b ρ
  | none => none
theorem se_if (h : ST M k N xa sc e rt) (h1 : SE M k N xa sc a ra) (h2 : SE M k N xa sc b rb) : SE M k N xa sc (.IfExp e a b pos) (rIf rt ra rb) where
  ok X W c ρ d hh := by
    unfold rIf at hh
    split at hh
    · rename_i q; exact de_if (h.ok X W c ρ _ q) (fun _ => h1.ok X W c ρ d hh) (fun z => by cases z)
    · rename_i q; exact de_if (h.ok X W c ρ _ q) (fun z => by cases z) (fun _ => h2.ok X W c ρ d hh)
    · cases hh
  ex X W c ρ c' hh := by
    unfold rIf at hh
    refine dx_of (pe_ifExp pt_sem pe_sem pe_sem) fun B F σ H I q Q => ?_
    split at hh
    · rename_i qq
      refine h.ok X W c ρ _ qq B F σ H I _ fun H' B' s I' => ?_
      rw [if_pos rfl]
      exact h1.ex X W c ρ c' hh B' F σ H' I' (fun H2 B2 s2 I2 => q H2 B2 (s.trans s2) I2) _
    · rename_i qq
      refine h.ok X W c ρ _ qq B F σ H I _ fun H' B' s I' => ?_
      rw [if_neg Bool.false_ne_true]
      exact h2.ex X W c ρ c' hh B' F σ H' I' (fun H2 B2 s2 I2 => q H2 B2 (s.trans s2) I2) _
    · cases hh

/-! ### arguments, displays -/
def aNil : RA := fun _ => some (.vs [])
def aCons (a : RE) (r : RA) : RA := fun ρ => match a ρ with
  | some (.ret d) => match r ρ with
    | some (.vs ds) => some (.vs (d :: ds))
    | x => x
  | some (.exc c) => some (.exc c)
  | none => none
theorem sa_nil : SA M k N xa sc [] aNil := ⟨fun X W c ρ ds h => by cases h; exact da_nil, fun X W c ρ c' h => by cases h⟩
theorem sa_cons (h : SE M k N xa sc e re) (hr : SA M k N xa sc es rs) (hs : ∀ env, starEach (e :: es) env = (false, eval e env) :: starEach es env := by intro _; rfl) : SA M k N xa sc (e :: es) (aCons re rs) where
  ok X W c ρ ds hh := by
    unfold aCons at hh
    split at hh
    · rename_i q
      split at hh
      · rename_i q2
        cases hh
        exact da_cons (h.ok X W c ρ _ q) (hr.ok X W c ρ _ q2) (hs _)
      · rename_i q2
        exact absurd hh (q2 ds)
    · cases hh
    · cases hh
  ex X W c ρ c' hh := by
    unfold aCons at hh
    refine dax_of (pa_cons pe_sem pa_sem (hs _)) fun B F σ H I q Q => ?_
    split at hh
    · rename_i q1
      split at hh
      · cases hh
      · exact h.ok X W c ρ _ q1 B F σ H I _ fun v H1 B1 s1 I1 p1 => hr.ex X W c ρ c' hh B1 F σ H1 I1 (fun H2 B2 s2 I2 => q H2 B2 (s1.trans s2) I2) _
    · rename_i q1
      cases hh
      exact h.ex X W c ρ _ q1 B F σ H I q _
    · cases hh
def few (f : List PyData → PyData) (ds : List PyData) : Option RO := if ds.length ≤ 100000 then some (.ret (f ds)) else none
theorem few_ret {f : List PyData → PyData} {ds : List PyData} {d : PyData} (h : few f ds = some (.ret d)) : ds.length ≤ 100000 ∧ d = f ds := by
  unfold few at h
  split at h
  · cases h; exact ⟨by assumption, rfl⟩
  · cases h
theorem few_exc {f : List PyData → PyData} {ds : List PyData} {c : Nat} (h : few f ds = some (.exc c)) : False := by
  unfold few at h
  split at h <;> cases h
def rTup (r : RA) : RE := fun ρ => bA (r ρ) (few .tuple)
def rLst (r : RA) : RE := fun ρ => bA (r ρ) (few .list)
theorem se_tup {x1} (h : SA M k N xa sc es rs) : SE M k N xa sc (.Tuple es x1 pos) (rTup rs) where
  ok X W c ρ d hh := by
    obtain ⟨ds, h1, hh⟩ := bA_inv hh
    obtain ⟨q, rfl⟩ := few_ret hh
    exact de_tup (h.ok X W c ρ ds h1) q
  ex X W c ρ c' hh := by
    rcases bA_invX hh with h1 | ⟨ds, h1, hh⟩
    · exact dx_of (pe_tup pa_sem) fun B F σ H I q Q => h.ex X W c ρ c' h1 B F σ H I q _
    · exact (few_exc hh).elim
theorem se_lst (h : SA M k N xa sc es rs) : SE M k N xa sc (.List es pos) (rLst rs) where
  ok X W c ρ d hh := by
    obtain ⟨ds, h1, hh⟩ := bA_inv hh
    obtain ⟨q, rfl⟩ := few_ret hh
    exact de_lst (h.ok X W c ρ ds h1) q
  ex X W c ρ c' hh := by
    rcases bA_invX hh with h1 | ⟨ds, h1, hh⟩
    · exact dx_of (pe_lst pa_sem) fun B F σ H I q Q => h.ex X W c ρ c' h1 B F σ H I q _
    · exact (few_exc hh).elim
/-- a list of its own -/
def nLst (r : RA) : RN := fun ρ => match r ρ with
  | some (.vs ds) => if ds.length ≤ 100000 then some ds else none
  | _ => none
theorem sn_lst (h : SA M k N xa sc es rs) : SN M k N xa sc (.List es pos) (nLst rs) := ⟨fun X W c ρ ds hh => by
  unfold nLst at hh
  split at hh
  · rename_i q
    split at hh
    · cases hh; exact dn_lst (h.ok X W c ρ _ q) (by assumption)
    · cases hh
  · cases hh⟩
def rOf (n : RN) : RE := fun ρ => (n ρ).map fun ds => .ret (.list ds)
theorem rOf_inv {n : RN} {d : PyData} (h : rOf n ρ = some (.ret d)) : ∃ ds, n ρ = some ds ∧ d = .list ds := by
  unfold rOf at h
  cases e : n ρ with
  | none => rw [e] at h; cases h
  | some b => rw [e] at h; cases h; exact ⟨b, rfl, rfl⟩
theorem rOf_exc {n : RN} {c : Nat} (h : rOf n ρ = some (.exc c)) : False := by
  unfold rOf at h
  cases e : n ρ with
  | none => rw [e] at h; cases h
  | some b => rw [e] at h; cases h
theorem SN.se (h : SN M k N xa sc e rn) : SE M k N xa sc e (rOf rn) := ⟨fun X W c ρ d hh => by
  obtain ⟨ds, h1, rfl⟩ := rOf_inv hh
  exact (h.ok X W c ρ ds h1).de, fun X W c ρ c' hh => (rOf_exc hh).elim⟩
theorem SL.se (h : SL M k N xa sc e rn) : SE M k N xa sc e (rOf rn) := ⟨fun X W c ρ d hh => by
  obtain ⟨ds, h1, rfl⟩ := rOf_inv hh
  exact (h.ok X W c ρ ds h1).de, fun X W c ρ c' hh => (rOf_exc hh).elim⟩

/-! ### calls -/
def OkCl (M : Md) (k : Nat) (N : List Str) (g : Value) (f : List PyData → Option PyData) : Prop := ∀ sc X W, Cn M k N sc X W → ∀ ds d, f ds = some d → Cl M X g ds d
def rB1 (f : List PyData → Option PyData) (r : RA) : RE := fun ρ => match r ρ with
  | some (.vs ds) => (f ds).map .ret
  | _ => none
theorem rB1_inv {f : List PyData → Option PyData} {r : RA} {d : PyData} (h : rB1 f r ρ = some (.ret d)) : ∃ ds, r ρ = some (.vs ds) ∧ f ds = some d := by
  unfold rB1 at h
  split at h
  · exact ⟨_, by assumption, map_ret h⟩
  · cases h
theorem rB1_exc {f : List PyData → Option PyData} {r : RA} {c : Nat} (h : rB1 f r ρ = some (.exc c)) : False := by
  unfold rB1 at h
  split at h
  · exact map_exc h
  · cases h
theorem se_callB {id : String} {q : Pos} {f : List PyData → Option PyData} (hm : M.mg x = none) (hv : bootBuiltins x = some (.builtin id)) (hf : OkCl M k N (.builtin id) f) (ha : SA M k N xa sc (e :: es) rs)
    (he : ∀ env, starEach (e :: es) env = (false, eval e env) :: starEach es env := by intro _; rfl) (hpl : ∀ env, (backTo pos (starEach es env)).any (·.1) = false := by intro _; rfl) (hg : (glB sc x && okN x) = true := by decide +kernel) : SE M k N xa sc (.Call (.Name x q) (e :: es) [] pos) (rB1 f rs) where
  ok X W c ρ d hh := by
    obtain ⟨ds, h1, h2⟩ := rB1_inv hh
    exact de_callB c.toCv hm hv (ha.ok X W c ρ ds h1) (hf sc X W c ds d h2) (he _) (hpl _) hg
  ex X W c ρ c' hh := (rB1_exc hh).elim
theorem se_callTy {T : String} {q : Pos} {f : List PyData → Option PyData} (hm : M.mg x = none) (hv : bootBuiltins x = some (.type T)) (hf : OkCl M k N (.type T) f) (ha : SA M k N xa sc (e :: es) rs)
    (he : ∀ env, starEach (e :: es) env = (false, eval e env) :: starEach es env := by intro _; rfl) (hpl : ∀ env, (backTo pos (starEach es env)).any (·.1) = false := by intro _; rfl) (hg : (glB sc x && okN x) = true := by decide +kernel) : SE M k N xa sc (.Call (.Name x q) (e :: es) [] pos) (rB1 f rs) where
  ok X W c ρ d hh := by
    obtain ⟨ds, h1, h2⟩ := rB1_inv hh
    exact de_callTy c.toCv hm hv (ha.ok X W c ρ ds h1) (hf sc X W c ds d h2) (he _) (hpl _) hg
  ex X W c ρ c' hh := (rB1_exc hh).elim
/-- the defs of the program, by numbers -/
abbrev RC := Nat → List PyData → Option RO
def phiC (call : RC) (xa : Nat → Addr) (f : Nat) : List PyData → Out → Prop := fun ds o => ∃ r, call f ds = some r ∧ o = r.out xa
def rCall (call : RC) (f : Nat) (r : RA) : RE := fun ρ => bA (r ρ) (call f)
theorem dx_call {q : Pos} {ds : List PyData} {φ : List PyData → Out → Prop} (c : Cn M k N sc X W) (G : Fok M kf x φ) (hk : kf ≤ k) (ha : DA M X (e :: es) ρ ds) (hφ : φ ds (.exc C)) (he : starEach (e :: es) X.env = (false, eval e X.env) :: starEach es X.env)
    (hpl : (backTo pos (starEach es X.env)).any (·.1) = false) (hg : (glB sc x && okN x) = true) : DX M X W (.Call (.Name x q) (e :: es) [] pos) ρ C := by
  rw [Bool.and_eq_true] at hg
  obtain ⟨f, fd, ps, F, hm, hkp, hb⟩ := G.ex
  have F1 : FnOk X.prog X.w X.K X.mg X.base (L2N.CX X.prog X.w) kf f fd ps (spX M.K φ) := by rw [c.eP, c.ew, c.eK, c.eg, c.eb]; exact F
  refine dx_of (pe_callS F1 (c.room.mono hk) (c.gl hg.1) (by rw [c.eg]; exact hm) (by rw [c.eK]; exact hkp) (by rw [c.eK]; exact hb) (L2N.passAt c.tk) pa_sem (okN1 hg.2) he hpl) fun B F σ H I qq Q => ?_
  refine ha B F σ H I _ fun vs H1 B1 s1 I1 p1 => ?_
  refine ⟨ds, .exc C, B1, rem H1 B1, hφ, p1, I1.bh, rem_same, fun a u => rem_dj, (fun d' hd => by cases hd), fun C' hC H' t1 t2 => ?_⟩
  cases hC
  exact qq H' B1 s1 (I1.back (Same.refl B1) t2 t1 fun a u e => rem_dj e)
theorem dx_callA {q : Pos} {φ : List PyData → Out → Prop} (c : Cn M k N sc X W) (G : Fok M kf x φ) (hk : kf ≤ k) (ha : DAX M X W (e :: es) ρ C) (he : starEach (e :: es) X.env = (false, eval e X.env) :: starEach es X.env)
    (hpl : (backTo pos (starEach es X.env)).any (·.1) = false) (hg : (glB sc x && okN x) = true) : DX M X W (.Call (.Name x q) (e :: es) [] pos) ρ C := by
  rw [Bool.and_eq_true] at hg
  obtain ⟨f, fd, ps, F, hm, hkp, hb⟩ := G.ex
  have F1 : FnOk X.prog X.w X.K X.mg X.base (L2N.CX X.prog X.w) kf f fd ps (spX M.K φ) := by rw [c.eP, c.ew, c.eK, c.eg, c.eb]; exact F
  exact dx_of (pe_callS F1 (c.room.mono hk) (c.gl hg.1) (by rw [c.eg]; exact hm) (by rw [c.eK]; exact hkp) (by rw [c.eK]; exact hb) (L2N.passAt c.tk) pa_sem (okN1 hg.2) he hpl) fun B F σ H I qq Q => ha B F σ H I qq _
theorem se_call {call : RC} {f : Nat} {q : Pos} (G : Fok M kf x (phiC call xa f)) (hk : kf ≤ k) (ha : SA M k N xa sc (e :: es) rs)
    (he : ∀ env, starEach (e :: es) env = (false, eval e env) :: starEach es env := by intro _; rfl) (hpl : ∀ env, (backTo pos (starEach es env)).any (·.1) = false := by intro _; rfl) (hg : (glB sc x && okN x) = true := by decide +kernel) : SE M k N xa sc (.Call (.Name x q) (e :: es) [] pos) (rCall call f rs) where
  ok X W c ρ d hh := by
    obtain ⟨ds, h1, h2⟩ := bA_inv hh
    exact de_call c G hk (ha.ok X W c ρ ds h1) ⟨_, h2, rfl⟩ (he _) (hpl _) hg
  ex X W c ρ c' hh := by
    rcases bA_invX hh with h1 | ⟨ds, h1, h2⟩
    · exact dx_callA c G hk (ha.ex X W c ρ c' h1) (he _) (hpl _) hg
    · exact dx_call c G hk (ha.ok X W c ρ ds h1) ⟨_, h2, rfl⟩ (he _) (hpl _) hg
theorem se_call0 {call : RC} {f : Nat} {q : Pos} (G : Fok M kf x (phiC call xa f)) (hk : kf ≤ k) (hg : (glB sc x && okN x) = true := by decide +kernel) : SE M k N xa sc (.Call (.Name x q) [] [] pos) (fun _ => match call f [] with | some (.ret d) => some (.ret d) | _ => none) where
  ok X W c ρ d hh := by
    split at hh
    · rename_i q
      cases hh
      exact de_call0 c G hk ⟨_, q, rfl⟩ hg
    · cases hh
  ex X W c ρ c' hh := by
    split at hh <;> cases hh

/-! ### subscripts -/
def OkIx (M : Md) (k : Nat) (N : List Str) (f : PyData → PyData → Option PyData) : Prop := ∀ sc X W, Cn M k N sc X W → ∀ d1 d2 d, f d1 d2 = some d → Ix M X d1 d2 d
theorem ixr_no : IxR X (fun _ _ _ _ => False) := by
  unfold IxR
  intros
  exact False.elim (by assumption)
theorem se_ix {f : PyData → PyData → Option PyData} (ho : OkIx M k N f) (ha : SE M k N xa sc a ra) (hb : SE M k N xa sc b rb) (hs : PlainIx b := by intro _ _; rfl) : SE M k N xa sc (.Subscript a b pos) (rBin f ra rb) where
  ok X W c ρ d h := by
    obtain ⟨d1, h1, h⟩ := bE_inv h
    obtain ⟨d2, h2, h⟩ := bE_inv h
    exact de_ix (ha.ok X W c ρ d1 h1) (hb.ok X W c ρ d2 h2) (ho sc X W c d1 d2 d (map_ret h)) hs
  ex X W c ρ c' h := by
    refine dx_of (pe_ix ixr_no pe_sem pe_sem hs) fun B F σ H I q Q => ?_
    rcases bE_invX h with h1 | ⟨d1, h1, h⟩
    · exact ha.ex X W c ρ c' h1 B F σ H I q _
    · rcases bE_invX h with h2 | ⟨d2, h2, h⟩
      · exact ha.ok X W c ρ d1 h1 B F σ H I _ fun v1 H1 B1 s1 I1 p1 => hb.ex X W c ρ c' h2 B1 F σ H1 I1 (fun H' B' s I' => q H' B' (s1.trans s) I') _
      · exact (map_exc h).elim
/-- slices: bounds that are ints, or nothing -/
abbrev RO1 := List Sl → Option (Option Int)
structure SO (M : Md) (k : Nat) (N : List Str) (xa : Nat → Addr) (sc : Sco) (e : Option Expr) (r : RO1) : Prop where
  ok : ∀ X W, Cn M k N sc X W → ∀ ρ o, r ρ = some o → DO M X e ρ o
def oN : RO1 := fun _ => some none
def oS (a : RE) : RO1 := fun ρ => vE (a ρ) fun d => match d with
  | .int n => some (some n)
  | _ => none
theorem so_none : SO M k N xa sc none oN := ⟨fun X W c ρ o h => by cases h; exact do_none⟩
theorem so_some (ha : SE M k N xa sc e ra) : SO M k N xa sc (some e) (oS ra) := ⟨fun X W c ρ o h => by
  obtain ⟨d, h1, h⟩ := vE_inv h
  split at h
  · cases h; exact do_some (ha.ok X W c ρ _ h1)
  · cases h⟩
def slF (d : PyData) (lo hi : Option Int) : Option PyData := match d with
  | .str s => if s.cps.toList.length ≤ 100000 then some (S (cut s.cps.toList lo hi)) else none
  | .tuple ds => some (.tuple (cut ds lo hi))
  | .list ds => some (.list (cut ds lo hi))
  | _ => none
def rSl (a : RE) (lo hi : RO1) : RE := fun ρ => vE (a ρ) fun d => match lo ρ with
  | some l => match hi ρ with
    | some h => (slF d l h).map .ret
    | none => none
  | none => none
theorem se_sl {lo hi : Option Expr} {ol oh : RO1} (ha : SE M k N xa sc e ra) (hl : SO M k N xa sc lo ol) (hh : SO M k N xa sc hi oh) : SE M k N xa sc (.Subscript e (.Slice lo hi none p2) pos) (rSl ra ol oh) where
  ok X W c ρ d h := by
    obtain ⟨d1, h1, h⟩ := vE_inv h
    split at h
    · rename_i l ql
      split at h
      · rename_i u qu
        have h := map_ret h
        refine de_sl (ha.ok X W c ρ d1 h1) (hl.ok X W c ρ l ql) (hh.ok X W c ρ u qu) ?_
        cases d1 with
        | str s =>
          unfold slF at h
          dsimp only at h
          split at h
          · rename_i q
            cases h
            exact sl_s (s := s.cps.toList) q
          · cases h
        | tuple ds => cases h; exact sl_t c.toCv
        | list ds => cases h; exact sl_l c.toCv
        | _ => cases h
      · cases h
    · cases h
  ex X W c ρ c' h := by
    obtain ⟨d1, h1, h⟩ := vE_inv h
    split at h
    · split at h
      · exact (map_exc h).elim
      · cases h
    · cases h
end
end Rl

namespace Rl
open PySem PySem.Spec PyProof.Rows L2 Dl

/-! ### targets -/
def psL : List Nat → List PyData → List Sl → Option (List Sl)
  | [], [], ρ => some ρ
  | j :: js, d :: ds, ρ => match sS ρ j (.v d) with
    | some ρ1 => psL js ds ρ1
    | none => none
  | _, _, _ => none
def ps (p : Pat) (d : PyData) (ρ : List Sl) : Option (List Sl) := match p with
  | .nm j => sS ρ j (.v d)
  | .tp js => match d with
    | .tuple ds => psL js ds ρ
    | _ => none
theorem psL_ok : ∀ {js : List Nat} {ds : List PyData} {ρ ρ' : List Sl}, psL js ds ρ = some ρ' → PSets js ds ρ ρ'
  | [], [], _, _, h => by cases h; exact .nil
  | [], _ :: _, _, _, h => by cases h
  | _ :: _, [], _, _, h => by cases h
  | j :: js, d :: ds, ρ, ρ', h => by
    unfold psL at h
    split at h
    · rename_i q
      exact .cons (sS_set q) (psL_ok h)
    · cases h
theorem ps_ok {p : Pat} {d : PyData} {ρ ρ' : List Sl} (h : ps p d ρ = some ρ') : PSet1 p d ρ ρ' := by
  cases p with
  | nm j => exact .nm (sS_set h)
  | tp js =>
    unfold ps at h
    dsimp only at h
    split at h
    · exact .tp (psL_ok h)
    · cases h

/-! ### the slots of a comprehension -/
def noS : List Sl → Nat → Option (List Sl)
  | [], _ => none
  | s :: r, 0 => match s with
    | .no => some (.no :: r)
    | .v _ => some (.no :: r)
    | _ => none
  | x :: r, n + 1 => (noS r n).map (x :: ·)
theorem noS_ok : ∀ {ρ : List Sl} {i : Nat} {ρ' : List Sl}, noS ρ i = some ρ' → SetNo i ρ ρ'
  | [], _, _, h => by cases h
  | s :: r, 0, _, h => by
    cases s with
    | no => cases h; exact .zn
    | v d => cases h; exact .zv
    | _ => cases h
  | s :: r, i + 1, ρ', h => by
    unfold noS at h
    cases e : noS r i with
    | none => rw [e] at h; cases h
    | some r' =>
      rw [e] at h
      cases h
      exact .s (noS_ok e)
def wipS : List Nat → List Sl → Option (List Sl)
  | [], ρ => some ρ
  | v :: vs, ρ => match wipS vs ρ with
    | some ρ1 => noS ρ1 v
    | none => none
theorem wipS_ok : ∀ {vs : List Nat} {ρ ρ' : List Sl}, wipS vs ρ = some ρ' → Wip vs ρ ρ'
  | [], _, _, h => by cases h; exact .nil
  | v :: vs, ρ, ρ', h => by
    unfold wipS at h
    split at h
    · rename_i q
      exact .cons (wipS_ok q) (noS_ok h)
    · cases h
def lcL (f : PyData → Option (Option PyData)) : List PyData → Option (List PyData)
  | [] => some []
  | d :: r => match f d with
    | some (some y) => (lcL f r).map (y :: ·)
    | some none => lcL f r
    | none => none
def turn (p : Pat) (ts : RT) (el : RE) (ρw : List Sl) (d : PyData) : Option (Option PyData) := match ps p d ρw with
  | some ρ1 => match ts ρ1 with
    | some true => vE (el ρ1) fun y => some (some y)
    | some false => some none
    | none => none
  | none => none
def rLc (own : List Nat) (p : Pat) (it : RA) (ts : RT) (el : RE) : RN := fun ρ => match it ρ with
  | some (.vs ds) => if ds.length ≤ 10000000 then match wipS own ρ with
      | some ρw => lcL (turn p ts el ρw) ds
      | none => none
    else none
  | _ => none
theorem lcL_get {f : PyData → Option (Option PyData)} : ∀ {ds es : List PyData}, lcL f ds = some es → (∀ (i : Nat) d, ds[i]? = some d → ∃ o, f d = some o) ∧ es = (List.range ds.length).filterMap fun i => (ds[i]?).bind fun d => (f d).getD none
  | [], es, h => by cases h; exact ⟨fun i d h => by simp at h, rfl⟩
  | d :: r, es, h => by
    unfold lcL at h
    rw [filterMap_range fun d => (f d).getD none]
    rw [List.filterMap_cons]
    split at h
    · rename_i y q
      cases e : lcL f r with
      | none => rw [e] at h; cases h
      | some es' =>
        rw [e] at h
        cases h
        obtain ⟨h1, h2⟩ := lcL_get e
        rw [filterMap_range fun d => (f d).getD none] at h2
        refine ⟨fun i d' hd => ?_, by rw [q, h2]; rfl⟩
        cases i with
        | zero => cases hd; exact ⟨_, q⟩
        | succ i => exact h1 i d' hd
    · rename_i q
      obtain ⟨h1, h2⟩ := lcL_get h
      rw [filterMap_range fun d => (f d).getD none] at h2
      refine ⟨fun i d' hd => ?_, by rw [q, h2]; rfl⟩
      cases i with
      | zero => cases hd; exact ⟨_, q⟩
      | succ i => exact h1 i d' hd
    · cases h

section
variable {M : Md} {k kf : Nat} {N : List Str} {xa : Nat → Addr} {sc : Sco} {scope : Scope} {tr : Bool} {e a b c' o elt tg iter : Expr} {es ifs : List Expr} {st : Stmt} {sts body q1 q2 : List Stmt} {pos p2 p3 p4 p5 apos : Pos} {x y z : Str} {i j l : Nat} {X : Cx} {W : WX} {ρ : List Sl} {C : Addr}
variable {ra rb rc re : RE} {rt : RT} {rs : RA} {rn : RN} {s s1 s2 : RS} {p : Pat} {own : List (Str × Nat)}
structure STs (M : Md) (k : Nat) (N : List Str) (xa : Nat → Addr) (sc : Sco) (ifs : List Expr) (t : RT) : Prop where
  ok : ∀ X W, Cn M k N sc X W → ∀ ρ b, t ρ = some b → DTs M X ifs ρ b
def tYes : RT := fun _ => some true
theorem sts_nil : STs M k N xa sc [] tYes := ⟨fun X W c ρ b h => by cases h; exact dts_nil⟩
theorem sts_one (h : ST M k N xa sc e rt) : STs M k N xa sc [e] rt := ⟨fun X W c ρ b hh => dts_one (h.ok X W c ρ b hh)⟩
theorem sl_lc (hb : blkC N sc.rd scope own = true) (hi : SI M k N xa sc tg iter rs) (hp : SG M k N (inS scope sc) tg p) (hts : STs M k N xa (inS scope sc) ifs rt) (he : SE M k N xa (inS scope sc) elt re) (hown : p.slots.all (fun j => (own.map (·.2)).contains j) = true)
    (hf : ∀ env x, foldedSetIterable iter env x = pure x := by intro _ _; rfl) : SL M k N xa sc (.ListComp elt [⟨tg, iter, ifs, 0⟩] scope pos) (rLc (own.map (·.2)) p rs rt re) := ⟨fun X W c ρ ds hh => by
  unfold rLc at hh
  split at hh
  · rename_i items q
    split at hh
    · rename_i hl
      split at hh
      · rename_i ρw qw
        obtain ⟨h1, rfl⟩ := lcL_get hh
        refine dl_lc c hb (hi.ok X W c ρ _ q) (fun X1 c1 => hp.ok X1 _ c1) (fun j hj => ?_) (wipS_ok qw) (fun i d hd => ?_) hl (hf _)
        · have := List.all_eq_true.mp hown j hj
          exact List.contains_iff_mem.mp this
        · obtain ⟨o, ho⟩ := h1 i d hd
          have hg : (items[i]?).bind (fun d => (turn p rt re ρw d).getD none) = o := by rw [hd]; show (turn p rt re ρw d).getD none = o; rw [ho]; rfl
          have ho' := ho
          unfold turn at ho
          split at ho
          · rename_i ρ1 q1
            split at ho
            · rename_i qt
              obtain ⟨y, hy, ho⟩ := vE_inv ho
              cases ho
              exact ⟨ρ1, true, ps_ok q1, fun X1 c1 => ⟨hts.ok X1 _ c1 ρ1 true qt, fun _ => ⟨y, hg, he.ok X1 _ c1 ρ1 y hy⟩⟩, fun z => by cases z⟩
            · rename_i qt
              cases ho
              exact ⟨ρ1, false, ps_ok q1, fun X1 c1 => ⟨hts.ok X1 _ c1 ρ1 false qt, fun z => by cases z⟩, fun _ => hg⟩
            · cases ho
          · cases ho
      · cases hh
    · cases hh
  · cases hh⟩

/-! ### what is walked -/
def iLst (a : RE) : RA := fun ρ => match a ρ with
  | some (.ret (.list ds)) => some (.vs ds)
  | some (.ret (.tuple ds)) => some (.vs ds)
  | some (.ret (.str s)) => some (.vs (s.cps.toList.map fun q => S [q]))
  | some (.exc c) => some (.exc c)
  | _ => none
end
section
variable {M : Md} {k kf : Nat} {N : List Str} {xa : Nat → Addr} {sc : Sco} {scope : Scope} {tr : Bool} {e a b c' o elt tg iter : Expr} {es ifs : List Expr} {st : Stmt} {sts body q1 q2 : List Stmt} {pos p2 p3 p4 p5 apos : Pos} {x y z : Str} {i j l : Nat} {X : Cx} {W : WX} {ρ : List Sl} {C : Addr}
variable {ra rb rc re : RE} {rt : RT} {rs : RA} {rn : RN} {s s1 s2 : RS} {p : Pat} {own : List (Str × Nat)}
theorem si_lst (h : SE M k N xa sc e ra) : SI M k N xa sc tg e (iLst ra) where
  ok X W c ρ ds hh := by
    unfold iLst at hh
    split at hh
    · rename_i q; cases hh; exact di_list c.toCv (h.ok X W c ρ _ q)
    · rename_i q; cases hh; exact di_tup c.toCv (h.ok X W c ρ _ q)
    · rename_i s q; cases hh; exact di_str (s := s.cps.toList) (h.ok X W c ρ _ q)
    · cases hh
    · cases hh
  ex X W c ρ c' hh := by
    unfold iLst at hh
    split at hh
    · cases hh
    · cases hh
    · cases hh
    · rename_i q
      cases hh
      exact fun B F σ H I w Q pins s iv => (pi_list (tg := tg) pe_sem).run pins s σ H Q iv (h.ex X W c ρ _ q B F σ H I w _)
    · cases hh
def inR (m : Int) : Bool := decide (-(2 ^ 62) ≤ m) && decide (m < 2 ^ 62)
theorem inR_ok {m : Int} (h : inR m = true) : -(2 ^ 62) ≤ m ∧ m < 2 ^ 62 := by
  unfold inR at h
  rw [Bool.and_eq_true] at h
  exact ⟨of_decide_eq_true h.1, of_decide_eq_true h.2⟩
def iRng1 (a : RE) : RA := fun ρ => vE (a ρ) fun d => match d with
  | .int m => if inR m = true then some (.vs (rangeD 0 m.toNat)) else none
  | _ => none
theorem vE_vs {o : Option RO} {f : PyData → Option RL} {c : Nat} (hf : ∀ d c, f d ≠ some (.exc c)) (h : vE o f = some (.exc c)) : False := by
  obtain ⟨d, _, h⟩ := vE_inv h
  exact hf d c h
theorem si_range1 {q : Pos} (hm : M.mg "range" = none) (h : SE M k N xa sc e ra) (hs : ∀ env, starEach (e :: []) env = (false, eval e env) :: starEach [] env := by intro _; rfl) (hg : glB sc "range" = true := by decide +kernel) : SI M k N xa sc tg (.Call (.Name "range" q) [e] [] pos) (iRng1 ra) where
  ok X W c ρ ds hh := by
    obtain ⟨d, h1, hh⟩ := vE_inv hh
    split at hh
    · split at hh
      · rename_i hr
        cases hh
        exact di_range1 c.toCv hm (h.ok X W c ρ _ h1) (inR_ok hr) (hs _) hg
      · cases hh
    · cases hh
  ex X W c ρ c' hh := (vE_vs (fun d c z => by split at z <;> first | cases z | (split at z <;> cases z)) hh).elim
def iRng2 (a b : RE) : RA := fun ρ => vE (a ρ) fun d => vE (b ρ) fun d2 => match d, d2 with
  | .int m, .int n => if (inR m && inR n) = true then some (.vs (rangeD m (n - m).toNat)) else none
  | _, _ => none
theorem si_range2 {q : Pos} (hm : M.mg "range" = none) (ha : SE M k N xa sc a ra) (hb : SE M k N xa sc b rb) (hs : ∀ env, starEach (a :: [b]) env = (false, eval a env) :: starEach [b] env := by intro _; rfl) (hs2 : ∀ env, starEach (b :: []) env = (false, eval b env) :: starEach [] env := by intro _; rfl) (hg : glB sc "range" = true := by decide +kernel) :
    SI M k N xa sc tg (.Call (.Name "range" q) [a, b] [] pos) (iRng2 ra rb) where
  ok X W c ρ ds hh := by
    obtain ⟨d, h1, hh⟩ := vE_inv hh
    obtain ⟨d2, h2, hh⟩ := vE_inv hh
    split at hh
    · split at hh
      · rename_i hr
        cases hh
        rw [Bool.and_eq_true] at hr
        exact di_range2 c.toCv hm (ha.ok X W c ρ _ h1) (hb.ok X W c ρ _ h2) ⟨(inR_ok hr.1).1, (inR_ok hr.1).2, (inR_ok hr.2).1, (inR_ok hr.2).2⟩ (hs _) (hs2 _) hg
      · cases hh
    · cases hh
  ex X W c ρ c' hh := by
    obtain ⟨d, h1, hh⟩ := vE_inv hh
    exact (vE_vs (fun d c z => by split at z <;> first | cases z | (split at z <;> cases z)) hh).elim
def iDown (a b : RE) : RA := fun ρ => vE (a ρ) fun d => vE (b ρ) fun d2 => match d, d2 with
  | .int m, .int n => if (inR m && inR n) = true then some (.vs (rangeDn m (m - n).toNat)) else none
  | _, _ => none
end
end Rl

namespace Rl
open PySem PySem.Spec PyProof.Rows L2 Dl
section
variable {M : Md} {k kf : Nat} {N : List Str} {xa : Nat → Addr} {sc : Sco} {scope : Scope} {tr : Bool} {e a b c' o elt tg iter : Expr} {es ifs : List Expr} {st : Stmt} {sts body q1 q2 : List Stmt} {pos p2 p3 p4 p5 apos : Pos} {x y z : Str} {i j l : Nat} {X : Cx} {W : WX} {ρ : List Sl} {C : Addr}
variable {ra rb rc re : RE} {rt : RT} {rs : RA} {rn : RN} {s s1 s2 : RS} {p : Pat} {own : List (Str × Nat)}
theorem si_down {q : Pos} (hm : M.mg "range" = none) (ha : SE M k N xa sc a ra) (hb : SE M k N xa sc b rb) (hc : ∀ X ρ, DE M X c' ρ (.int (-1))) (hs : ∀ env, starEach [a, b, c'] env = (false, eval a env) :: starEach [b, c'] env := by intro _; rfl) (hs2 : ∀ env, starEach [b, c'] env = (false, eval b env) :: starEach [c'] env := by intro _; rfl)
    (hs3 : ∀ env, starEach [c'] env = (false, eval c' env) :: starEach [] env := by intro _; rfl) (hpl : ∀ env, (backTo pos (starEach [b, c'] env)).any (·.1) = false := by intro _; rfl) (hg : glB sc "range" = true := by decide +kernel) :
    SI M k N xa sc tg (.Call (.Name "range" q) [a, b, c'] [] pos) (iDown ra rb) where
  ok X W c ρ ds hh := by
    obtain ⟨d, h1, hh⟩ := vE_inv hh
    obtain ⟨d2, h2, hh⟩ := vE_inv hh
    split at hh
    · split at hh
      · rename_i hr
        cases hh
        rw [Bool.and_eq_true] at hr
        exact di_down c.toCv hm (ha.ok X W c ρ _ h1) (hb.ok X W c ρ _ h2) (hc X ρ) ⟨(inR_ok hr.1).1, (inR_ok hr.1).2, (inR_ok hr.2).1, (inR_ok hr.2).2⟩ (hs _) (hs2 _) (hs3 _) (hpl _) hg
      · cases hh
    · cases hh
  ex X W c ρ c' hh := by
    obtain ⟨d, h1, hh⟩ := vE_inv hh
    exact (vE_vs (fun d c z => by split at z <;> first | cases z | (split at z <;> cases z)) hh).elim
def iZip (a b : RE) : RA := fun ρ => vE (a ρ) fun d => vE (b ρ) fun d2 => match d, d2 with
  | .list x, .list y => some (.vs (zipD x y))
  | .tuple x, .tuple y => some (.vs (zipD x y))
  | _, _ => none
theorem si_zip {elts : List Expr} {kk : Nat} {tpos q : Pos} (hm : M.mg "zip" = none) (ha : SE M k N xa sc a ra) (hb : SE M k N xa sc b rb) (hs : ∀ env, starEach [a, b] env = (false, eval a env) :: starEach [b] env := by intro _; rfl) (hs2 : ∀ env, starEach [b] env = (false, eval b env) :: starEach [] env := by intro _; rfl) (hpl : ∀ env, (backTo pos (starEach [b] env)).any (·.1) = false := by intro _; rfl) (hg : glB sc "zip" = true := by decide +kernel) :
    SI M k N xa sc (.Tuple elts kk tpos) (.Call (.Name "zip" q) [a, b] [] pos) (iZip ra rb) where
  ok X W c ρ ds hh := by
    obtain ⟨d, h1, hh⟩ := vE_inv hh
    obtain ⟨d2, h2, hh⟩ := vE_inv hh
    split at hh
    · cases hh
      exact di_zip c.toCv hm (ha.ok X W c ρ _ h1) (hb.ok X W c ρ _ h2) (.inl ⟨rfl, rfl⟩) (hs _) (hs2 _) (hpl _) hg
    · cases hh
      exact di_zip c.toCv hm (ha.ok X W c ρ _ h1) (hb.ok X W c ρ _ h2) (.inr ⟨rfl, rfl⟩) (hs _) (hs2 _) (hpl _) hg
    · cases hh
  ex X W c ρ c' hh := by
    obtain ⟨d, h1, hh⟩ := vE_inv hh
    exact (vE_vs (fun d c z => by split at z <;> cases z) hh).elim
def iEnum (a : RE) : RA := fun ρ => vE (a ρ) fun d => match d with
  | .list x => some (.vs (enumD x))
  | .tuple x => some (.vs (enumD x))
  | _ => none
theorem si_enum {elts : List Expr} {kk : Nat} {tpos q : Pos} (hm : M.mg "enumerate" = none) (ha : SE M k N xa sc e ra) (hs : ∀ env, starEach [e] env = [(false, eval e env)] := by intro _; rfl) (hg : glB sc "enumerate" = true := by decide +kernel) :
    SI M k N xa sc (.Tuple elts kk tpos) (.Call (.Name "enumerate" q) [e] [] pos) (iEnum ra) where
  ok X W c ρ ds hh := by
    obtain ⟨d, h1, hh⟩ := vE_inv hh
    split at hh
    · cases hh
      exact di_enumL c.toCv hm (ha.ok X W c ρ _ h1) (hs _) hg
    · cases hh
      exact di_enumT c.toCv hm (ha.ok X W c ρ _ h1) (hs _) hg
    · cases hh
  ex X W c ρ c' hh := (vE_vs (fun d c z => by split at z <;> cases z) hh).elim
/-! ### targets -/
theorem sg_nm (hj : Get j x N) (hl : locB sc x = true := by decide +kernel) : SG M k N sc (.Name x pos) (.nm j) := ⟨fun X W c => pat_nm c.toCv hj hl⟩
theorem sg_tp2 {kk : Nat} {j1 j2 : Nat} (h1 : Get j1 x N) (h2 : Get j2 y N) (hl : (locB sc x && locB sc y) = true := by decide +kernel) : SG M k N sc (.Tuple [.Name x p2, .Name y p3] kk pos) (.tp [j1, j2]) := ⟨fun X W c => pat_tp2 c h1 h2 hl⟩
theorem sg_tp3 {kk : Nat} {j1 j2 j3 : Nat} (h1 : Get j1 x N) (h2 : Get j2 y N) (h3 : Get j3 z N) (hl : (locB sc x && locB sc y && locB sc z) = true := by decide +kernel) : SG M k N sc (.Tuple [.Name x p2, .Name y p3, .Name z p4] kk pos) (.tp [j1, j2, j3]) := ⟨fun X W c => pat_tp3 c h1 h2 h3 hl⟩
theorem sg_tp4 {kk : Nat} {u : Str} {j1 j2 j3 j4 : Nat} (h1 : Get j1 x N) (h2 : Get j2 y N) (h3 : Get j3 z N) (h4 : Get j4 u N) (hl : (locB sc x && locB sc y && locB sc z && locB sc u) = true := by decide +kernel) : SG M k N sc (.Tuple [.Name x p2, .Name y p3, .Name z p4, .Name u p5] kk pos) (.tp [j1, j2, j3, j4]) := ⟨fun X W c => pat_tp4 c h1 h2 h3 h4 hl⟩

/-! ### blocks -/
def sNil : RS := fun ρ => some (.nx ρ)
def sSeq (s1 s2 : RS) : RS := fun ρ => match s1 ρ with
  | some (.nx ρ') => s2 ρ'
  | r => r
theorem sb_nil : SB M k N xa sc tr [] sNil := ⟨fun X W c t ρ r h => by cases h; exact db_end rfl⟩
theorem db_weak {nx' nx : List Sl → Prop} {R' R : REnds} (h : DB M X W sts ρ nx' R') (h1 : ∀ ρ, nx' ρ → nx ρ) (h2 : ∀ d ρ, R'.rt d ρ → R.rt d ρ) (h3 : ∀ C ρ, R'.ex C ρ → R.ex C ρ) (h4 : ∀ ρ, R'.bk ρ → R.bk ρ) (h5 : ∀ ρ, R'.ct ρ → R.ct ρ) : DB M X W sts ρ nx R :=
  fun B F σ H I E f => h B F σ H I E ⟨fun ρ σ H B' q => f.nx ρ σ H B' (h1 ρ q), fun d ρ x σ H B' q => f.rt d ρ x σ H B' (h2 d ρ q), fun C ρ σ H B' q => f.ex C ρ σ H B' (h3 C ρ q), fun ρ σ H B' q => f.bk ρ σ H B' (h4 ρ q), fun ρ σ H B' q => f.ct ρ σ H B' (h5 ρ q)⟩
theorem sSeq_inv {r : Res} (h : sSeq s1 s2 ρ = some r) : (∃ ρ', s1 ρ = some (.nx ρ') ∧ s2 ρ' = some r) ∨ (s1 ρ = some r ∧ ∀ ρ', r ≠ .nx ρ') := by
  unfold sSeq at h
  split at h
  · exact .inl ⟨_, by assumption, h⟩
  · rename_i q
    exact .inr ⟨h, fun ρ' z => q ρ' (by rw [h, z])⟩
theorem sb_cons (h : SS M k N xa sc tr st s1) (h2 : SB M k N xa sc tr sts s2) : SB M k N xa sc tr (st :: sts) (sSeq s1 s2) := ⟨fun X W c t ρ r hh => by
  rcases sSeq_inv hh with ⟨ρ', e1, e2⟩ | ⟨e1, hn⟩
  · exact db_cons (ds_weak (h.ok X W c t ρ _ e1) (fun ρ2 q => by cases q; exact h2.ok X W c t ρ' r e2) (fun d ρ2 q => by cases q) (fun C ρ2 ⟨c2, _, q⟩ => by cases q) (fun ρ2 q => by cases q) (fun ρ2 q => by cases q))
  · exact db_cons (ds_weak (h.ok X W c t ρ _ e1) (fun ρ2 q => absurd q (hn ρ2)) (fun d ρ2 q => q) (fun C ρ2 q => q) (fun ρ2 q => q) (fun ρ2 q => q))⟩

/-! ### statements -/
def sRet (e : RE) : RS := fun ρ => bS (e ρ) ρ fun d => some (.rt d ρ)
theorem ss_ret (h : SE M k N xa sc e re) : SS M k N xa sc tr (.Return (some e) pos) (sRet re) := ⟨fun X W c t ρ r hh => by
  rcases bS_inv hh with ⟨c1, e1, rfl⟩ | ⟨d, e1, e2⟩
  · exact ds_of (ps_ret pe_sem) fun B F σ H I E f => h.ex X W c ρ c1 e1 B F σ H I (fun H' B' s I' => f.ex _ ρ σ H' B' ⟨c1, rfl, rfl⟩ s I') _
  · cases e2
    exact ds_ret (h.ok X W c ρ d e1) rfl⟩
def sRetN : RS := fun ρ => some (.rt .none ρ)
theorem ss_retN : SS M k N xa sc tr (.Return none pos) sRetN := ⟨fun X W c t ρ r hh => by cases hh; exact ds_retN rfl⟩
def sExp (e : RE) : RS := fun ρ => bS (e ρ) ρ fun _ => some (.nx ρ)
theorem ss_exp (h : SE M k N xa sc e re) (hs : ∀ env, swapsWith e none pos.line env = pure false := by intro _; rfl) : SS M k N xa sc tr (.Expr e pos) (sExp re) := ⟨fun X W c t ρ r hh => by
  rcases bS_inv hh with ⟨c1, e1, rfl⟩ | ⟨d, e1, e2⟩
  · exact ds_of (ps_expr pe_sem (hs _)) fun B F σ H I E f => h.ex X W c ρ c1 e1 B F σ H I (fun H' B' s I' => f.ex _ ρ σ H' B' ⟨c1, rfl, rfl⟩ s I') _
  · cases e2
    exact ds_expr (h.ok X W c ρ d e1) rfl (hs _)⟩
def sPass : RS := fun ρ => some (.nx ρ)
theorem ss_pass : SS M k N xa sc tr (.Pass pos) sPass := ⟨fun X W c t ρ r hh => by cases hh; exact ds_pass rfl⟩
def sBrk : RS := fun ρ => some (.bk ρ)
theorem ss_brk : SS M k N xa sc tr (.Break pos) sBrk := ⟨fun X W c t ρ r hh => by cases hh; exact ds_break rfl⟩
def sCnt : RS := fun ρ => some (.ct ρ)
theorem ss_cnt : SS M k N xa sc tr (.Continue pos) sCnt := ⟨fun X W c t ρ r hh => by cases hh; exact ds_cont rfl⟩
def nxO (o : Option (List Sl)) : Option Res := o.map .nx
theorem nxO_inv {o : Option (List Sl)} {r : Res} (h : nxO o = some r) : ∃ ρ', o = some ρ' ∧ r = .nx ρ' := by
  cases o with
  | none => cases h
  | some a => cases h; exact ⟨a, rfl, rfl⟩
def sSet (i : Nat) (e : RE) : RS := fun ρ => bS (e ρ) ρ fun d => nxO (sS ρ i (.v d))
theorem ss_set (hi : Get i x N) (h : SE M k N xa sc e re) (hs : ∀ env, swapsWith e (some (.Name x p2)) pos.line env = pure false := by intro _; rfl) (hl : locB sc x = true := by decide +kernel) : SS M k N xa sc tr (.Assign [.Name x p2] e pos) (sSet i re) := ⟨fun X W c t ρ r hh => by
  rcases bS_inv hh with ⟨c1, e1, rfl⟩ | ⟨d, e1, e2⟩
  · exact ds_of (ps_set (by rw [c.hN]; exact c.nd) (by rw [c.hN]; exact hi.at) (c.loc hl).1 pe_sem (hs _) (c.loc hl).2) fun B F σ H I E f => h.ex X W c ρ c1 e1 B F σ H I (fun H' B' s I' => f.ex _ ρ σ H' B' ⟨c1, rfl, rfl⟩ s I') _
  · obtain ⟨ρ', e3, rfl⟩ := nxO_inv e2
    exact ds_set c.toCv hi (h.ok X W c ρ d e1) (sS_set e3) rfl (hs _) hl⟩
/-- a comprehension to a name on its own line -/
theorem ss_setL (hi : Get i y N) (h : SL M k N xa sc (.ListComp elt [⟨tg, iter, ifs, 0⟩] scope p2) rn) (hy : (sc.rd.names.lookup y == some .local && (p3.line == p2.line) && !(scope.names.any fun (n, k) => n == y && (k == .local || k == .cell))) = true := by decide +kernel) :
    SS M k N xa sc tr (.Assign [.Name y p3] (.ListComp elt [⟨tg, iter, ifs, 0⟩] scope p2) pos) (sSet i (rOf rn)) := ⟨fun X W c t ρ r hh => by
  rcases bS_inv hh with ⟨c1, e1, rfl⟩ | ⟨d, e1, e2⟩
  · exact (rOf_exc e1).elim
  · obtain ⟨ρ', e3, rfl⟩ := nxO_inv e2
    obtain ⟨ds, e4, rfl⟩ := rOf_inv e1
    exact ds_setL c hi (h.ok X W c ρ ds e4) (sS_set e3) rfl hy⟩
theorem ss_setC (hi : Get i y N) (h : SL M k N xa sc (.ListComp elt [⟨tg, iter, ifs, 0⟩] scope p2) rn) (hy : (sc.rd.names.lookup y == some .local) = false := by decide +kernel) (hl : locB sc y = true := by decide +kernel) :
    SS M k N xa sc tr (.Assign [.Name y p3] (.ListComp elt [⟨tg, iter, ifs, 0⟩] scope p2) pos) (sSet i (rOf rn)) := ⟨fun X W c t ρ r hh => by
  rcases bS_inv hh with ⟨c1, e1, rfl⟩ | ⟨d, e1, e2⟩
  · exact (rOf_exc e1).elim
  · obtain ⟨ρ', e3, rfl⟩ := nxO_inv e2
    obtain ⟨ds, e4, rfl⟩ := rOf_inv e1
    exact ds_setC c hi (h.ok X W c ρ ds e4) (sS_set e3) rfl hy hl⟩
/-- a list that the slot owns -/
def sNew (i : Nat) (n : RN) : RS := fun ρ => match n ρ with
  | some ds => nxO (sS ρ i (.ol ds))
  | none => none
theorem sNew_inv {r : Res} (h : sNew i rn ρ = some r) : ∃ ds ρ', rn ρ = some ds ∧ sS ρ i (.ol ds) = some ρ' ∧ r = .nx ρ' := by
  unfold sNew at h
  split at h
  · obtain ⟨ρ', e2, rfl⟩ := nxO_inv h
    exact ⟨_, ρ', by assumption, e2, rfl⟩
  · cases h
theorem ss_new (hi : Get i x N) (h : SN M k N xa sc e rn) (hs : ∀ env, swapsWith e (some (.Name x p2)) pos.line env = pure false := by intro _; rfl) (hl : locB sc x = true := by decide +kernel) : SS M k N xa sc tr (.Assign [.Name x p2] e pos) (sNew i rn) := ⟨fun X W c t ρ r hh => by
  obtain ⟨ds, ρ', e1, e2, rfl⟩ := sNew_inv hh
  exact ds_setN c.toCv hi (h.ok X W c ρ ds e1) (sS_set e2) rfl (hs _) hl⟩
theorem ss_newL (hi : Get i y N) (h : SL M k N xa sc (.ListComp elt [⟨tg, iter, ifs, 0⟩] scope p2) rn) (hy : (sc.rd.names.lookup y == some .local && (p3.line == p2.line) && !(scope.names.any fun (n, k) => n == y && (k == .local || k == .cell))) = true := by decide +kernel) :
    SS M k N xa sc tr (.Assign [.Name y p3] (.ListComp elt [⟨tg, iter, ifs, 0⟩] scope p2) pos) (sNew i rn) := ⟨fun X W c t ρ r hh => by
  obtain ⟨ds, ρ', e1, e2, rfl⟩ := sNew_inv hh
  exact ds_setLN c hi (h.ok X W c ρ ds e1) (sS_set e2) rfl hy⟩
def sAsg (p : Pat) (e : RE) : RS := fun ρ => bS (e ρ) ρ fun d => nxO (ps p d ρ)
theorem ss_asg (hg : SG M k N sc tg p) (h : SE M k N xa sc e re) (hs : ∀ env, swapsWithSole [tg] e pos.line env = pure false := by intro _; rfl) (hw : swappedStores [tg] e (env0 sc.rd) = pure none := by kernel_rfl)
    (h1 : ∀ env, (assignEach [tg] env).map (·.2) = [assign tg env] := by intro _; rfl) : SS M k N xa sc tr (.Assign [tg] e pos) (sAsg p re) := ⟨fun X W c t ρ r hh => by
  have hw' : swappedStores [tg] e X.env = pure none := by rw [sw_env c.hs]; exact hw
  rcases bS_inv hh with ⟨c1, e1, rfl⟩ | ⟨d, e1, e2⟩
  · exact ds_of (ps_asg pe_sem (hg.ok X W c) (hs _) hw' (h1 _)) fun B F σ H I E f => h.ex X W c ρ c1 e1 B F σ H I (fun H' B' s I' => f.ex _ ρ σ H' B' ⟨c1, rfl, rfl⟩ s I') _
  · obtain ⟨ρ', e3, rfl⟩ := nxO_inv e2
    exact ds_asg (hg.ok X W c) (h.ok X W c ρ d e1) (ps_ok e3) rfl (hs _) hw' (h1 _)⟩
/-- a, b = x, y of locals: the same evaluator, another rule -/
def sPar (js : List Nat) (r : RA) : RS := fun ρ => match r ρ with
  | some (.vs ds) => nxO (psL js ds ρ)
  | _ => none
theorem sPar_inv {js : List Nat} {r : Res} (h : sPar js rs ρ = some r) : ∃ ds ρ', rs ρ = some (.vs ds) ∧ psL js ds ρ = some ρ' ∧ r = .nx ρ' := by
  unfold sPar at h
  split at h
  · obtain ⟨ρ', e2, rfl⟩ := nxO_inv h
    exact ⟨_, ρ', by assumption, e2, rfl⟩
  · cases h
theorem ss_par2 {k1 k2 : Nat} (hi : Get i x N) (hj : Get j y N) (ha : SA M k N xa sc [a, b] rs) (hij : i ≠ j := by decide)
    (hw : swappedStores [.Tuple [.Name x p2, .Name y p3] k1 p4] (.Tuple [a, b] k2 p5) (env0 sc.rd) = pure (some [x, y]) := by kernel_rfl) (hl : (sc.rd.names.lookup x == some .local && sc.rd.names.lookup y == some .local) = true := by decide +kernel) :
    SS M k N xa sc tr (.Assign [.Tuple [.Name x p2, .Name y p3] k1 p4] (.Tuple [a, b] k2 p5) pos) (sPar [i, j] rs) := ⟨fun X W c t ρ r hh => by
  obtain ⟨ds, ρ', e1, e2, rfl⟩ := sPar_inv hh
  cases psL_ok e2 with
  | cons h1 t1 =>
    cases t1 with
    | cons h2 t2 =>
      cases t2
      exact ds_par2 c hi hj (ha.ok X W c ρ _ e1) h1 h2 rfl hij hw hl⟩
theorem ss_par3 {k1 k2 : Nat} {p6 : Pos} (hi : Get i x N) (hj : Get j y N) (hk : Get l z N) (ha : SA M k N xa sc [a, b, c'] rs) (hij : i ≠ j := by decide) (hil : i ≠ l := by decide) (hjl : j ≠ l := by decide)
    (hw : swappedStores [.Tuple [.Name x p2, .Name y p3, .Name z p6] k1 p4] (.Tuple [a, b, c'] k2 p5) (env0 sc.rd) = pure (some [x, y, z]) := by kernel_rfl) (hl : (sc.rd.names.lookup x == some .local && sc.rd.names.lookup y == some .local && sc.rd.names.lookup z == some .local) = true := by decide +kernel) :
    SS M k N xa sc tr (.Assign [.Tuple [.Name x p2, .Name y p3, .Name z p6] k1 p4] (.Tuple [a, b, c'] k2 p5) pos) (sPar [i, j, l] rs) := ⟨fun X W c t ρ r hh => by
  obtain ⟨ds, ρ', e1, e2, rfl⟩ := sPar_inv hh
  cases psL_ok e2 with
  | cons h1 t1 =>
    cases t1 with
    | cons h2 t2 =>
      cases t2 with
      | cons h3 t3 =>
        cases t3
        exact ds_par3 c hi hj hk (ha.ok X W c ρ _ e1) h1 h2 h3 rfl hij hil hjl hw hl⟩
def gO : List Sl → Nat → Option (List PyData)
  | [], _ => none
  | s :: _, 0 => match s with
    | .ol d => some d
    | _ => none
  | _ :: r, n + 1 => gO r n
theorem gO_get : ∀ {ρ : List Sl} {i : Nat} {d : List PyData}, gO ρ i = some d → Get i (.ol d) ρ
  | [], _, _, h => by cases h
  | s :: r, 0, d, h => by
    cases s with
    | ol e => cases h; exact .z
    | _ => cases h
  | s :: r, i + 1, d, h => .s (gO_get (ρ := r) h)
def sApp (i : Nat) (e : RE) : RS := fun ρ => vE (e ρ) fun d => match gO ρ i with
  | some ds => if ds.length < 10000000 then nxO (sS ρ i (.ol (ds ++ [d]))) else none
  | none => none
def sExt (i : Nat) (e : RE) : RS := fun ρ => vE (e ρ) fun d => match gO ρ i, d with
  | some ds, .list es => if ds.length + es.length ≤ 10000000 then nxO (sS ρ i (.ol (ds ++ es))) else none
  | _, _ => none
def sIf (t : RT) (a b : RS) : RS := fun ρ => match t ρ with
  | some true => a ρ
  | some false => b ρ
  | none => none
theorem ss_if (h : ST M k N xa sc e rt) (h1 : SB M k N xa sc tr q1 s1) (h2 : SB M k N xa sc tr q2 s2) : SS M k N xa sc tr (.If e q1 q2 pos) (sIf rt s1 s2) := ⟨fun X W c t ρ r hh => by
  unfold sIf at hh
  split at hh
  · rename_i q; exact ds_if (h.ok X W c ρ _ q) (fun _ => h1.ok X W c t ρ r hh) (fun z => by cases z)
  · rename_i q; exact ds_if (h.ok X W c ρ _ q) (fun z => by cases z) (fun _ => h2.ok X W c t ρ r hh)
  · cases hh⟩
def forL (f : PyData → List Sl → Option Res) : List PyData → List Sl → Option Res
  | [], ρ => some (.nx ρ)
  | d :: r, ρ => match f d ρ with
    | some (.nx ρ') => forL f r ρ'
    | some (.ct ρ') => forL f r ρ'
    | some (.bk ρ') => some (.nx ρ')
    | some (.rt d ρ') => some (.rt d ρ')
    | some (.ex c ρ') => some (.ex c ρ')
    | none => none
def onPat (p : Pat) (s : RS) (d : PyData) (ρ : List Sl) : Option Res := match ps p d ρ with
  | some ρ1 => s ρ1
  | none => none
def sFor (p : Pat) (it : RA) (s : RS) : RS := fun ρ => bAS (it ρ) ρ fun ds => forL (onPat p s) ds ρ
theorem ss_for (hg : SG M k N sc tg p) (hi : SI M k N xa sc tg iter rs) (hb : SB M k N xa sc tr body s) (hf : ∀ env x, foldedSetIterable iter env x = pure x := by intro _ _; rfl) : SS M k N xa sc tr (.For tg iter body [] pos) (sFor p rs s) := ⟨fun X W c t ρ r hh => by
  rcases bAS_inv hh with ⟨c1, e1, rfl⟩ | ⟨ds, e1, e2⟩
  · exact ds_of (ps_for c.po c.calm pi_sem (hg.ok X W c) pb_sem (hf _)) fun B F σ H I E f => hi.ex X W c ρ c1 e1 B F σ H I (fun H' B' s I' => f.ex _ ρ σ H' B' ⟨c1, rfl, rfl⟩ s I') _
  · refine ds_for c (hg.ok X W c) (hi.ok X W c ρ ds e1) (fun i ρ' => forL (onPat p s) (ds.drop i) ρ' = some r) e2 (fun i d ρ' hd hv => ?_) (fun ρ' hv => ?_) (hf _)
    · have hlt := (List.getElem?_eq_some_iff.mp hd).1
      have he := (List.getElem?_eq_some_iff.mp hd).2
      rw [List.drop_eq_getElem_cons hlt, he] at hv
      unfold forL at hv
      cases q : onPat p s d ρ' with
      | none => rw [q] at hv; cases hv
      | some r1 =>
        rw [q] at hv
        unfold onPat at q
        split at q
        · rename_i ρ1 q1
          refine ⟨ρ1, ps_ok q1, db_weak (hb.ok X W c t ρ1 r1 q) ?_ ?_ ?_ ?_ ?_⟩
          · rintro ρ2 rfl; exact hv
          · intro d2 ρ2 z; cases (show r1 = .rt d2 ρ2 from z); cases hv; rfl
          · rintro C ρ2 ⟨c2, rfl, z⟩; cases z; cases hv; exact ⟨c2, rfl, rfl⟩
          · intro ρ2 z; cases (show r1 = .bk ρ2 from z); cases hv; rfl
          · intro ρ2 z; cases (show r1 = .ct ρ2 from z); exact hv
        · cases q
    · rw [List.drop_length] at hv
      cases hv
      rfl⟩
def whlL (t : RT) (s : RS) : Nat → List Sl → Option Res
  | 0, _ => none
  | n + 1, ρ => match t ρ with
    | some true => match s ρ with
      | some (.nx ρ') => whlL t s n ρ'
      | some (.ct ρ') => whlL t s n ρ'
      | some (.bk ρ') => some (.nx ρ')
      | some (.rt d ρ') => some (.rt d ρ')
      | some (.ex c ρ') => some (.ex c ρ')
      | none => none
    | some false => some (.nx ρ)
    | none => none
def sWhl (n : Nat) (t : RT) (s : RS) : RS := fun ρ => whlL t s n ρ
theorem ss_whl {n : Nat} (h : ST M k N xa sc e rt) (hb : SB M k N xa sc tr body s) : SS M k N xa sc tr (.While e body [] pos) (sWhl n rt s) := ⟨fun X W c t ρ r hh => by
  refine ds_while c (fun m ρ' => whlL rt s m ρ' = some r) n hh fun m ρ' hv => ?_
  cases m with
  | zero => cases hv
  | succ m =>
    unfold whlL at hv
    split at hv
    · rename_i q
      refine ⟨true, h.ok X W c ρ' _ q, fun _ => ?_, fun z => (by cases z)⟩
      cases q1 : s ρ' with
      | none => rw [q1] at hv; cases hv
      | some r1 =>
        rw [q1] at hv
        refine db_weak (hb.ok X W c t ρ' r1 q1) ?_ ?_ ?_ ?_ ?_
        · rintro ρ2 rfl; exact ⟨m, Nat.lt_succ_self m, hv⟩
        · intro d2 ρ2 z; cases (show r1 = .rt d2 ρ2 from z); cases hv; rfl
        · rintro C ρ2 ⟨c2, rfl, z⟩; cases z; cases hv; exact ⟨c2, rfl, rfl⟩
        · intro ρ2 z; cases (show r1 = .bk ρ2 from z); cases hv; rfl
        · intro ρ2 z; cases (show r1 = .ct ρ2 from z); exact ⟨m, Nat.lt_succ_self m, hv⟩
    · rename_i q
      cases hv
      exact ⟨false, h.ok X W c ρ' _ q, fun z => (by cases z), fun _ => rfl⟩
    · cases hv⟩
def sRaise (c : Nat) : RS := fun ρ => some (.ex c ρ)
theorem ss_raise {n : Nat} {m : Str} {j} (E : Exc M x (xa n) bmV) (hg : (glB sc x && okN x) = true := by decide +kernel) : SS M k N xa sc tr (.Raise (some (.Call (.Name x p2) [.Constant (.str m) j p3] [] p4)) none pos) (sRaise n) := ⟨fun X W c t ρ r hh => by
  cases hh
  exact ds_raise c E ⟨n, rfl, rfl⟩ hg⟩
/-- an owned list is given up -/
def sFrz (i : Nat) (s : RS) : RS := fun ρ => match gO ρ i with
  | some ds => match sS ρ i (.v (.list ds)) with
    | some ρ' => s ρ'
    | none => none
  | none => s ρ
theorem sb_frz (i : Nat) (h : SB M k N xa sc tr sts s) : SB M k N xa sc tr sts (sFrz i s) := ⟨fun X W c t ρ r hh => by
  unfold sFrz at hh
  split at hh
  · rename_i q
    split at hh
    · rename_i q2
      have q3 := (sS_set q2).eq.1
      subst q3
      exact db_freeze i (gO_get q).at (h.ok X W c t _ r hh)
    · cases hh
  · exact h.ok X W c t ρ r hh⟩
end
end Rl

namespace Rl
open PySem PySem.Spec PyProof.Rows L2 Dl
/-! ### lists that are owned, read for a while -/
mutual
def noL : PyData → Bool
  | .list _ => false
  | .dict _ => false
  | .tuple ds => noLs ds
  | _ => true
def noLs : List PyData → Bool
  | [] => true
  | d :: r => noL d && noLs r
end
/-- a field as data -/
def fdD : Fd → PyData
  | .v d => d
  | .ol ds => .list ds
/-- an object as data -/
def obD (c : Str) (fs : List (Str × Fd)) : PyData := .dict (obK c (fs.map (·.1)) (fs.map fun p => fdD p.2))
def vwS : Sl → Sl
  | .v d => .v d
  | .r x => .r x
  | .ol ds => .v (.list ds)
  | .ob _ c fs => .v (obD c fs)
  | .ot kvs => .v (dtD kvs)
  | _ => .no
def vw (ρ : List Sl) : List Sl := ρ.map vwS
/-- a thing that is no tuple -/
def notT : HO → Prop
  | .lst _ => True
  | .dK _ => True
  | .dT _ => True
  | .ins _ _ _ => True
  | .own _ => True
  | _ => False
mutual
theorem dq_cut {K : PySem.W.Frag} {B B2 : Hp} (hB : ∀ a o, B a = some o → B2 a = some o ∨ notT o) : ∀ {v : V} {d : PyData}, noL d = true → Dq K B v d → Dq K B2 v d
  | _, _, _, .non => .non
  | _, _, _, .bl b => .bl b
  | _, _, _, .int i => .int i
  | _, _, _, .str x => .str x
  | _, _, h, .lst _ _ => by cases h
  | _, _, h, .tup s t => by
    refine .tup ?_ (dqs_cut hB h t)
    rcases s with (s | ⟨o, s⟩) | s
    · rcases hB _ _ s with q | q
      · exact .inl (.inl q)
      · exact q.elim
    · rcases hB _ _ s with q | q
      · exact .inl (.inr ⟨o, q⟩)
      · exact q.elim
    · exact .inr s
  | _, _, h, .scr _ _ => by cases h
  | _, _, h, .obj _ _ _ => by cases h
  | _, _, h, .dft _ _ _ _ => by cases h
  | _, _, h, .dct _ _ _ _ => by cases h
  | _, _, h, .fdk _ _ _ _ => by cases h
theorem dqs_cut {K : PySem.W.Frag} {B B2 : Hp} (hB : ∀ a o, B a = some o → B2 a = some o ∨ notT o) : ∀ {vs : List V} {ds : List PyData}, noLs ds = true → DqAll K B vs ds → DqAll K B2 vs ds
  | _, _, _, .nil => .nil
  | _, _, h, .cons p t => by
    have h' := Bool.and_eq_true_iff.mp h
    exact .cons (dq_cut hB h'.1 p) (dqs_cut hB h'.2 t)
end
open Classical in
/-- while owned things are read: B1, what is shared then, and how one comes back -/
theorem envB_bor {K : PySem.W.Frag} {B F H : Hp} {σ : L2.St} {ρ : List Sl} (I : EnvB K B F H σ ρ) : ∃ B1 F1, Same B B1 ∧ EnvB K B1 F1 H σ (vw ρ) ∧
    ∀ B' H', Same B1 B' → EnvB K B' F1 H' σ (vw ρ) → ∃ B2, Same B B2 ∧ EnvB K B2 F H' σ ρ ∧ ∀ v d, noL d = true → Dq K B' v d → Dq K B2 v d := by
  obtain ⟨O, h1, h2⟩ := I.own
  let P : Addr → Prop := fun a => O a ≠ none ∧ ∃ o, H a = some o ∧ notT o
  let B1 : Hp := fun a => match B a with
    | some o => some o
    | none => if P a then H a else none
  have eB : ∀ a o, B a = some o → B1 a = some o := fun a o e => by show (match B a with | some o => some o | none => _) = _; rw [e]
  have eP : ∀ a, P a → B1 a = H a := fun a p => by
    have q := p.1
    cases hO : O a with
    | none => exact absurd hO q
    | some t =>
      have := (h1 a t hO).1
      show (match B a with | some o => some o | none => if P a then H a else none) = _
      rw [this]
      exact if_pos p
  have eN : ∀ a, ¬ P a → B1 a = B a := fun a p => by
    show (match B a with | some o => some o | none => if P a then H a else none) = _
    cases B a with
    | some o => rfl
    | none => exact if_neg p
  have sB : Same B B1 := eB
  have sH : Same B1 H := fun a o e => by
    by_cases p : P a
    · rw [eP a p] at e; exact e
    · rw [eN a p] at e; exact I.bh a o e
  refine ⟨B1, rem H B1, sB, ⟨?_, sH, rem_same, fun a u => rem_dj, fun _ => none, (fun a t e => by cases e), fun i s hs => ?_⟩, fun B' H' s' I' => ?_⟩
  · rw [I.ln]; exact (List.length_map _).symm
  · unfold vw at hs
    rw [List.getElem?_map] at hs
    cases hq : ρ[i]? with
    | none => rw [hq] at hs; cases hs
    | some s0 =>
      rw [hq] at hs
      cases hs
      rcases h2 i s0 hq with z | ⟨x, hx, hh⟩
      · subst z; exact .inl rfl
      · cases s0 with
        | no => exact .inl rfl
        | v d => exact .inr ⟨x, hx, dp_mono sB hh⟩
        | r y => exact .inr ⟨x, hx, hh⟩
        | ol ds =>
          obtain ⟨l, xs, e1, e2, e3, e4⟩ := hh
          refine .inr ⟨x, hx, ?_⟩
          subst e1
          exact .lst (by rw [eP l ⟨by rw [e2]; simp, _, e3, trivial⟩]; exact e3) (dpa_mono sB e4)
        | od _ => exact .inl rfl
        | ll _ => exact .inl rfl
        | lo _ _ => exact .inl rfl
        | ot kvs =>
          obtain ⟨l, ys, e1, e2, e3, e4⟩ := hh
          refine .inr ⟨x, hx, ?_⟩
          subst e1
          exact .dct rfl (by rw [eP l ⟨by rw [e2]; simp, _, e3, trivial⟩]; exact e3) (kdp_ks e4) (dpa_mono sB (kdp_vals e4))
        | ob a c fs =>
          obtain ⟨dx, gs, e1, e2, e3, e4, e5, e6, e7⟩ := hh
          refine .inr ⟨x, hx, ?_⟩
          subst e1
          refine .obj (c := c) (gs := gs) (ds := fs.map fun p => fdD p.2) ?_ (by rw [eP a ⟨by rw [e2]; simp, _, e4, trivial⟩]; exact e4) ?_
          · have hn : ∀ {gs : List (Str × V)} {fs : List (Str × Fd)}, Paired (fun (p : Str × V) (q : Str × Fd) => p.1 = q.1 ∧ FdH K B H O i p.1 p.2 q.2) gs fs → gs.map (·.1) = fs.map (·.1) := by
              intro gs fs h
              induction h with
              | nil => rfl
              | cons r t ih => rw [List.map_cons, List.map_cons, ih, r.1]
            rw [hn e7]
          · have hd : ∀ {gs : List (Str × V)} {fs : List (Str × Fd)}, Paired (fun (p : Str × V) (q : Str × Fd) => p.1 = q.1 ∧ FdH K B H O i p.1 p.2 q.2) gs fs → DqAll K B1 (gs.map (·.2)) (fs.map fun p => fdD p.2) := by
              intro gs fs h
              induction h with
              | nil => exact .nil
              | cons r t ih =>
                rename_i p q ps qs
                refine .cons ?_ ih
                obtain ⟨_, z⟩ := r
                obtain ⟨qn, qf⟩ := q
                cases qf with
                | v d => exact dp_mono sB z
                | ol ds =>
                  obtain ⟨l, xs, f1, f2, f3, f4⟩ := z
                  show Dq K B1 p.2 (.list ds)
                  rw [f1]
                  exact .lst (by rw [eP l ⟨by rw [f2]; simp, _, f3, trivial⟩]; exact f3) (dpa_mono sB f4)
            exact hd e7
  · let B2 : Hp := fun a => if P a then none else B' a
    have b2n : ∀ a, ¬ P a → B2 a = B' a := fun a p => if_neg p
    have hBP : ∀ a o, B a = some o → ¬ P a := fun a o e p => by
      obtain ⟨q, _⟩ := p
      cases hO : O a with
      | none => exact absurd hO q
      | some t =>
        have := (h1 a t hO).1
        rw [e] at this
        cases this
    have s2 : Same B B2 := fun a o e => by rw [b2n a (hBP a o e)]; exact s' a o (sB a o e)
    have hFP : ∀ a u, F a = some u → rem H B1 a = some u := fun a u e => by
      have hb : B1 a = none := by
        by_cases p : P a
        · obtain ⟨q, _⟩ := p
          cases hO : O a with
          | none => exact absurd hO q
          | some t =>
            have := (h1 a t hO).2.1
            rw [e] at this
            cases this
        · rw [eN a p]; exact (I.dj a u e).1
      exact rem_at hb (I.fh a u e) (I.dj a u e).2
    let O2 : Own := fun a => if P a then O a else none
    refine ⟨B2, s2, ⟨I.ln, fun a o e => ?_, fun a u e => I'.fh a u (hFP a u e), fun a u e => ?_, O2, fun a t e => ?_, fun i s hs => ?_⟩, fun v d hn hd => ?_⟩
    · by_cases p : P a
      · rw [show B2 a = none from if_pos p] at e; cases e
      · rw [b2n a p] at e; exact I'.bh a o e
    · have q := I'.dj a u (hFP a u e)
      by_cases p : P a
      · exact ⟨if_pos p, q.2⟩
      · rw [b2n a p]; exact q
    · by_cases p : P a
      · have e' : O a = some t := by rw [← e]; exact (if_pos p).symm
        refine ⟨if_pos p, (h1 a t e').2.1, ?_⟩
        obtain ⟨_, o, ho, _⟩ := p
        rw [I'.bh a o (s' a o (by rw [eP a ⟨by rw [e']; simp, o, ho, by assumption⟩]; exact ho))]
        simp
      · rw [show O2 a = none from if_neg p] at e; cases e
    · rcases h2 i s hs with z | ⟨x, hx, hh⟩
      · exact .inl z
      · refine .inr ⟨x, hx, ?_⟩
        have keep : ∀ a t o, O a = some t → H a = some o → notT o → O2 a = some t ∧ H' a = H a := fun a t o e ho hn => by
          have p : P a := ⟨by rw [e]; simp, o, ho, hn⟩
          refine ⟨by rw [← e]; exact if_pos p, ?_⟩
          rw [ho]
          exact I'.bh a o (s' a o (by rw [eP a p]; exact ho))
        cases s with
        | no => trivial
        | v d => exact dp_mono s2 hh
        | r y => exact hh
        | ol ds =>
          obtain ⟨l, xs, e1, e2, e3, e4⟩ := hh
          obtain ⟨k1, k2⟩ := keep l _ _ e2 e3 trivial
          exact ⟨l, xs, e1, k1, by rw [k2]; exact e3, dpa_mono s2 e4⟩
        | od ds =>
          obtain ⟨l, xs, e1, e2, e3, e4⟩ := hh
          obtain ⟨k1, k2⟩ := keep l _ _ e2 e3 trivial
          exact ⟨l, xs, e1, k1, by rw [k2]; exact e3, kdp_mono s2 e4⟩
        | ot ds =>
          obtain ⟨l, xs, e1, e2, e3, e4⟩ := hh
          obtain ⟨k1, k2⟩ := keep l _ _ e2 e3 trivial
          exact ⟨l, xs, e1, k1, by rw [k2]; exact e3, kdp_mono s2 e4⟩
        | ll dss =>
          obtain ⟨l, e1, e2, e3, e5⟩ := hh
          obtain ⟨k1, k2⟩ := keep l _ _ e2 e3 trivial
          refine ⟨l, e1, k1, by rw [k2]; exact e3, fun j a ds g1 => ?_⟩
          obtain ⟨f1, xs, f2, f3⟩ := e5 j a ds g1
          obtain ⟨k3, k4⟩ := keep a _ _ f1 f2 trivial
          exact ⟨k3, xs, by rw [k4]; exact f2, dpa_mono s2 f3⟩
        | lo c os =>
          obtain ⟨l, e1, e2, e3, e4⟩ := hh
          obtain ⟨k1, k2⟩ := keep l _ _ e2 e3 trivial
          refine ⟨l, e1, k1, by rw [k2]; exact e3, fun j a fs g1 => ?_⟩
          obtain ⟨dx, gs, o2, o3, o4, o5, o6, o7⟩ := e4 j a fs g1
          obtain ⟨k1, k2⟩ := keep a _ _ o2 o4 trivial
          obtain ⟨k3, k4⟩ := keep dx _ _ o3 o5 trivial
          refine ⟨dx, gs, k1, k3, by rw [k2]; exact o4, by rw [k4]; exact o5, o6, Paired.mapP o7 fun p q z => ⟨z.1, ?_⟩⟩
          obtain ⟨_, z⟩ := z
          cases hq : q.2 with
          | v d => rw [hq] at z; exact dp_mono s2 z
          | ol ds =>
            rw [hq] at z
            obtain ⟨l, xs, f1, f2, f3, f4⟩ := z
            obtain ⟨k5, k6⟩ := keep l _ _ f2 f3 trivial
            exact ⟨l, xs, f1, k5, by rw [k6]; exact f3, dpa_mono s2 f4⟩
        | ob a c fs =>
          obtain ⟨dx, gs, e1, e2, e3, e4, e5, e6, e7⟩ := hh
          obtain ⟨k1, k2⟩ := keep a _ _ e2 e4 trivial
          obtain ⟨k3, k4⟩ := keep dx _ _ e3 e5 trivial
          refine ⟨dx, gs, e1, k1, k3, by rw [k2]; exact e4, by rw [k4]; exact e5, e6, Paired.mapP e7 fun p q z => ⟨z.1, ?_⟩⟩
          obtain ⟨_, z⟩ := z
          cases hq : q.2 with
          | v d => rw [hq] at z; exact dp_mono s2 z
          | ol ds =>
            rw [hq] at z
            obtain ⟨l, xs, f1, f2, f3, f4⟩ := z
            obtain ⟨k5, k6⟩ := keep l _ _ f2 f3 trivial
            exact ⟨l, xs, f1, k5, by rw [k6]; exact f3, dpa_mono s2 f4⟩
    · refine dq_cut (fun a o e => ?_) hn hd
      by_cases p : P a
      · obtain ⟨q, o', ho, hn'⟩ := p
        have e1 : B' a = some o' := s' a o' (by rw [eP a ⟨q, o', ho, hn'⟩]; exact ho)
        rw [e1] at e
        cases e
        exact .inr hn'
      · exact .inl (by rw [b2n a p]; exact e)
section
variable {M : Md} {k kf : Nat} {N : List Str} {xa : Nat → Addr} {sc : Sco} {scope : Scope} {tr : Bool} {e a b c' o elt tg iter : Expr} {es ifs : List Expr} {st : Stmt} {sts body q1 q2 : List Stmt} {pos p2 p3 p4 p5 apos : Pos} {x y z : Str} {i j l : Nat} {X : Cx} {W : WX} {ρ : List Sl} {C : Addr} {d : PyData}
variable {ra rb rc re : RE} {rt : RT} {rs : RA} {rn : RN} {s s1 s2 : RS} {p : Pat} {own : List (Str × Nat)}
theorem de_bor (h : DE M X e (vw ρ) d) (hn : noL d = true) : DE M X e ρ d := fun B F σ H I Q q => by
  obtain ⟨B1, F1, s1, I1, back⟩ := envB_bor I
  refine h B1 F1 σ H I1 Q fun v H' B' s' I' p => ?_
  obtain ⟨B2, s2, I2, hd⟩ := back B' H' s' I'
  exact q v H' B2 s2 I2 (hd v d hn p)
theorem dt_bor {bb : Bool} (h : DT M X e (vw ρ) bb) : DT M X e ρ bb := fun B F σ H I Q q => by
  obtain ⟨B1, F1, s1, I1, back⟩ := envB_bor I
  refine h B1 F1 σ H I1 Q fun H' B' s' I' => ?_
  obtain ⟨B2, s2, I2, hd⟩ := back B' H' s' I'
  exact q H' B2 s2 I2
theorem dx_bor (h : DX M X W e (vw ρ) C) : DX M X W e ρ C := fun B F σ H I q Q => by
  obtain ⟨B1, F1, s1, I1, back⟩ := envB_bor I
  refine h B1 F1 σ H I1 (fun H' B' s' I' => ?_) Q
  obtain ⟨B2, s2, I2, hd⟩ := back B' H' s' I'
  exact q H' B2 s2 I2
def rBor (a : RE) : RE := fun ρ => match a (vw ρ) with
  | some (.ret d) => if noL d = true then some (.ret d) else none
  | r => r
theorem se_bor (h : SE M k N xa sc e ra) : SE M k N xa sc e (rBor ra) where
  ok X W c ρ d hh := by
    unfold rBor at hh
    split at hh
    · rename_i q
      split at hh
      · cases hh; exact de_bor (h.ok X W c _ _ q) (by assumption)
      · cases hh
    · rename_i q
      exact absurd hh (q d)
  ex X W c ρ c' hh := by
    unfold rBor at hh
    split at hh
    · split at hh <;> cases hh
    · exact dx_bor (h.ex X W c _ _ hh)
def tBor (t : RT) : RT := fun ρ => t (vw ρ)
theorem st_bor (h : ST M k N xa sc e rt) : ST M k N xa sc e (tBor rt) := ⟨fun X W c ρ b hh => dt_bor (h.ok X W c _ b hh)⟩

/-! ### lists grown -/
theorem ss_app (hi : Get i x N) (h : SE M k N xa sc e re) (hv : (visB sc x && okN x) = true := by decide +kernel)
    (hfew : ∀ env, ((backTo p3 (starEach [e] env)).all (fun x => !x.1) && (backToKw p3 (keywordEach [] env)).all (fun x => x.1.isSome) && decide ([e].length + ([] : List Keyword).length + (if ([] : List Keyword).isEmpty then 0 else 1) < 30)) = true := by intro _; rfl)
    (hline : (apos.endLine == p3.line) = true := by rfl) (hs : ∀ env, starEach (e :: []) env = (false, eval e env) :: starEach [] env := by intro _; rfl) : SS M k N xa sc tr (.Expr (.Call (.Attribute (.Name x p2) "append" apos) [e] [] p3) pos) (sApp i re) := ⟨fun X W c t ρ r hh => by
  obtain ⟨d, e1, hh⟩ := vE_inv hh
  split at hh
  · rename_i ds q
    split at hh
    · rename_i hz
      obtain ⟨ρ', e2, rfl⟩ := nxO_inv hh
      exact ds_append c.toCv hi (gO_get q) (h.ok X W c ρ d e1) (sS_set e2) hz rfl hv (hfew _) hline (hs _)
    · cases hh
  · cases hh⟩
theorem ss_ext (hi : Get i x N) (h : SE M k N xa sc e re) (hv : (visB sc x && okN x) = true := by decide +kernel)
    (hfew : ∀ env, ((backTo p3 (starEach [e] env)).all (fun x => !x.1) && (backToKw p3 (keywordEach [] env)).all (fun x => x.1.isSome) && decide ([e].length + ([] : List Keyword).length + (if ([] : List Keyword).isEmpty then 0 else 1) < 30)) = true := by intro _; rfl)
    (hline : (apos.endLine == p3.line) = true := by rfl) (hs : ∀ env, starEach (e :: []) env = (false, eval e env) :: starEach [] env := by intro _; rfl) : SS M k N xa sc tr (.Expr (.Call (.Attribute (.Name x p2) "extend" apos) [e] [] p3) pos) (sExt i re) := ⟨fun X W c t ρ r hh => by
  obtain ⟨d, e1, hh⟩ := vE_inv hh
  split at hh
  · rename_i ds es q
    split at hh
    · rename_i hz
      obtain ⟨ρ', e2, rfl⟩ := nxO_inv hh
      exact ds_extend c.toCv hi (gO_get q) (h.ok X W c ρ _ e1) (sS_set e2) hz rfl hv (hfew _) hline (hs _)
    · cases hh
  · cases hh⟩

/-! ### defs -/
/-- what a def answers -/
def runD (n m : Nat) (s : RS) (ds : List PyData) : Option RO := if ds.length = n then match s (ds.map .v ++ List.replicate m .no) with
    | some (.nx _) => some (.ret .none)
    | some (.rt d _) => some (.ret d)
    | some (.ex c _) => some (.exc c)
    | _ => none
  else none
theorem def_ok {st : Stmt} {f : Addr} {fd : FuncData} {qual : Str} {pn : List Str} {call : RC} {fn : Nat} {n m : Nat} (F : Fun M.K x qual st f fd) (hm : M.mg x = some (.ref f)) (hb : Binds M.K fd pn []) (S : FnScope N pn (defScope st)) (hn : pn.length = n) (hl : N.length = n + m)
    (h : SB M k N xa ⟨defScope st, defScope st⟩ true (defBody st) s) (hc : ∀ ds, call fn ds = runD n m s ds) : Fok M (k + 1) x (phiC call xa fn) := by
  refine fok_mkT F hm hb S (fun ds o ⟨r, h1, _⟩ => ?_) fun X W ds o c t ⟨r, h1, h2⟩ => ?_
  · rw [hc] at h1
    unfold runD at h1
    split at h1
    · rename_i q; rw [q, hn]
    · cases h1
  · rw [hc] at h1
    unfold runD at h1
    split at h1
    · rename_i q
      rw [show N.length - ds.length = m by omega]
      split at h1
      · rename_i q2
        cases h1
        subst h2
        exact db_weak (h.ok X W c (fun _ => t) _ _ q2) (fun ρ _ => rfl) (fun d ρ z => by cases z) (fun C ρ ⟨c2, _, z⟩ => by cases z) (fun ρ z => by cases z) (fun ρ z => by cases z)
      · rename_i q2
        cases h1
        subst h2
        exact db_weak (h.ok X W c (fun _ => t) _ _ q2) (fun ρ z => by cases z) (fun d ρ z => by cases z; rfl) (fun C ρ ⟨c2, _, z⟩ => by cases z) (fun ρ z => by cases z) (fun ρ z => by cases z)
      · rename_i q2
        cases h1
        subst h2
        exact db_weak (h.ok X W c (fun _ => t) _ _ q2) (fun ρ z => by cases z) (fun d ρ z => by cases z) (fun C ρ ⟨c2, hC, z⟩ => by cases z; rw [hC]; rfl) (fun ρ z => by cases z) (fun ρ z => by cases z)
      · cases h1
    · cases h1
/-- with no fuel nothing is told -/
theorem def_no {st : Stmt} {f : Addr} {fd : FuncData} {qual : Str} {pn : List Str} {call : RC} {fn : Nat} (F : Fun M.K x qual st f fd) (hm : M.mg x = some (.ref f)) (hb : Binds M.K fd pn []) (S : FnScope N pn (defScope st)) (hc : ∀ ds, call fn ds = none) : Fok M 1 x (phiC call xa fn) :=
  fok_mk (k := 0) F hm hb S (fun ds o ⟨r, h1, _⟩ => by rw [hc] at h1; cases h1) fun X W ds o c ⟨r, h1, h2⟩ => by rw [hc] at h1; cases h1
/-- the law -/
theorem law_ok {φ : List PyData → Out → Prop} {st : Stmt} {f : Addr} {fd : FuncData} {qual : Str} {pn : List Str} {call : RC} {fn : Nat} {n m : Nat} (F : Fun M.K x qual st f fd) (S : FnScope N pn (defScope st)) (hn : pn.length = n) (hl : N.length = n + m)
    (h : SB M k N xa ⟨defScope st, defScope st⟩ true (defBody st) s) (hc : ∀ ds, call fn ds = runD n m s ds) (hφ : ∀ ds o, φ ds o → phiC call xa fn ds o) : FnOk M.P M.w M.K M.mg M.base (L2N.CX M.P M.w) (k + 1) f fd pn (spX M.K φ) := by
  refine fn_mkT F S (fun ds o hp => ?_) fun X W ds o c t hp => ?_
  all_goals obtain ⟨r, h1, h2⟩ := hφ ds o hp
  · rw [hc] at h1
    unfold runD at h1
    split at h1
    · rename_i q; rw [q, hn]
    · cases h1
  · rw [hc] at h1
    unfold runD at h1
    split at h1
    · rename_i q
      rw [show N.length - ds.length = m by omega]
      split at h1
      · rename_i q2
        cases h1
        subst h2
        exact db_weak (h.ok X W c (fun _ => t) _ _ q2) (fun ρ _ => rfl) (fun d ρ z => by cases z) (fun C ρ ⟨c2, _, z⟩ => by cases z) (fun ρ z => by cases z) (fun ρ z => by cases z)
      · rename_i q2
        cases h1
        subst h2
        exact db_weak (h.ok X W c (fun _ => t) _ _ q2) (fun ρ z => by cases z) (fun d ρ z => by cases z; rfl) (fun C ρ ⟨c2, _, z⟩ => by cases z) (fun ρ z => by cases z) (fun ρ z => by cases z)
      · rename_i q2
        cases h1
        subst h2
        exact db_weak (h.ok X W c (fun _ => t) _ _ q2) (fun ρ z => by cases z) (fun d ρ z => by cases z) (fun C ρ ⟨c2, hC, z⟩ => by cases z; rw [hC]; rfl) (fun ρ z => by cases z) (fun ρ z => by cases z)
      · cases h1
    · cases h1
end
end Rl

namespace Rl
open PySem PySem.Spec PyProof.Rows L2 Dl
/-! ### the plain operations -/
def cs (s : Str) : List Nat := s.cps.toList
theorem cs_S (l : List Nat) : cs ⟨l.toArray⟩ = l := rfl
theorem S_cs (s : Str) : S (cs s) = .str s := rfl
def fAdd : PyData → PyData → Option PyData
  | .int m, .int n => some (.int (m + n))
  | .str x, .str y => if (cs x).length + (cs y).length ≤ 100000 then some (S (cs x ++ cs y)) else none
  | .list x, .list y => if x.length + y.length ≤ 10000000 then some (.list (x ++ y)) else none
  | .tuple x, .tuple y => if x.length + y.length ≤ 100000 then some (.tuple (x ++ y)) else none
  | _, _ => none
def fSub : PyData → PyData → Option PyData
  | .int m, .int n => some (.int (m - n))
  | _, _ => none
def mulB (m n : Int) : Bool := (decide (-(2 ^ 64) < m) && decide (m < 2 ^ 64)) || (decide (-(2 ^ 64) < n) && decide (n < 2 ^ 64)) || decide (m.natAbs.log2 + n.natAbs.log2 < 1000000)
def fMul : PyData → PyData → Option PyData
  | .int m, .int n => if mulB m n = true then some (.int (m * n)) else none
  | .str x, .int n => if 0 ≤ n ∧ n ≤ 100000 ∧ (cs x).length * n.toNat ≤ 100000 then some (S (List.replicate n.toNat (cs x)).flatten) else none
  | .list x, .int n => if 0 ≤ n ∧ n ≤ 100000 ∧ x.length * n.toNat ≤ 100000 then some (.list (List.replicate n.toNat x).flatten) else none
  | .tuple x, .int n => if 2 ≤ n ∧ n ≤ 1000 ∧ x.length ≤ 1000 ∧ x.isEmpty = false then some (.tuple (List.replicate n.toNat x).flatten) else none
  | _, _ => none
def fDiv : PyData → PyData → Option PyData
  | .int m, .int n => if 0 < n ∧ (n < 1073741824 ∨ n.natAbs.log2 < 9000) then some (.int (m / n)) else none
  | _, _ => none
def fMod : PyData → PyData → Option PyData
  | .int m, .int n => if 0 < n then some (.int (m % n)) else none
  | _, _ => none
def fShl : PyData → PyData → Option PyData
  | .int m, .int n => if 0 ≤ n ∧ n ≤ 1000000 ∧ m.natAbs < 2 ^ 64 then some (.int (m * 2 ^ n.toNat)) else none
  | _, _ => none
def cLt : PyData → PyData → Option Bool
  | .int m, .int n => some (decide (m < n))
  | .str x, .str y => some (decide (cs x < cs y))
  | _, _ => none
def cLe : PyData → PyData → Option Bool
  | .int m, .int n => some (decide (m ≤ n))
  | _, _ => none
def cGt : PyData → PyData → Option Bool
  | .int m, .int n => some (decide (n < m))
  | _, _ => none
def cGe : PyData → PyData → Option Bool
  | .int m, .int n => some (decide (n ≤ m))
  | _, _ => none
def cEq : PyData → PyData → Option Bool
  | .int m, .int n => some (decide (m = n))
  | .str x, .str y => some (decide (cs x = cs y))
  | d1, d2 => if (SeqAt.shaped d1 && SeqAt.shaped d2) = true then some (PyData.eqv d1 d2) else none
def cNe (d1 d2 : PyData) : Option Bool := (cEq d1 d2).map (!·)
def strsOf : List PyData → Option (List (List Nat))
  | [] => some []
  | .str s :: r => (strsOf r).map (cs s :: ·)
  | _ :: _ => none
def intsOf : List PyData → Option (List Int)
  | [] => some []
  | .int s :: r => (intsOf r).map (s :: ·)
  | _ :: _ => none
def boolsOf : List PyData → Option (List Bool)
  | [] => some []
  | .bool s :: r => (boolsOf r).map (s :: ·)
  | _ :: _ => none
theorem strsOf_ok : ∀ {ds : List PyData} {ls : List (List Nat)}, strsOf ds = some ls → ds = ls.map S
  | [], ls, h => by cases h; rfl
  | .str s :: r, ls, h => by
    unfold strsOf at h
    cases e : strsOf r with
    | none => rw [e] at h; cases h
    | some l => rw [e] at h; cases h; rw [List.map_cons, ← strsOf_ok e]; rfl
  | .none :: r, ls, h => by cases h
  | .bool _ :: r, ls, h => by cases h
  | .int _ :: r, ls, h => by cases h
  | .list _ :: r, ls, h => by cases h
  | .tuple _ :: r, ls, h => by cases h
  | .dict _ :: r, ls, h => by cases h
theorem intsOf_ok : ∀ {ds : List PyData} {ls : List Int}, intsOf ds = some ls → ds = ls.map .int
  | [], ls, h => by cases h; rfl
  | .int s :: r, ls, h => by
    unfold intsOf at h
    cases e : intsOf r with
    | none => rw [e] at h; cases h
    | some l => rw [e] at h; cases h; rw [List.map_cons, ← intsOf_ok e]
  | .none :: r, ls, h => by cases h
  | .bool _ :: r, ls, h => by cases h
  | .str _ :: r, ls, h => by cases h
  | .list _ :: r, ls, h => by cases h
  | .tuple _ :: r, ls, h => by cases h
  | .dict _ :: r, ls, h => by cases h
theorem boolsOf_ok : ∀ {ds : List PyData} {ls : List Bool}, boolsOf ds = some ls → ds = ls.map .bool
  | [], ls, h => by cases h; rfl
  | .bool s :: r, ls, h => by
    unfold boolsOf at h
    cases e : boolsOf r with
    | none => rw [e] at h; cases h
    | some l => rw [e] at h; cases h; rw [List.map_cons, ← boolsOf_ok e]
  | .none :: r, ls, h => by cases h
  | .int _ :: r, ls, h => by cases h
  | .str _ :: r, ls, h => by cases h
  | .list _ :: r, ls, h => by cases h
  | .tuple _ :: r, ls, h => by cases h
  | .dict _ :: r, ls, h => by cases h
theorem strsOf_map : ∀ ls : List (List Nat), strsOf (ls.map S) = some ls
  | [] => rfl
  | s :: r => by show (strsOf (r.map S)).map _ = _; rw [strsOf_map r]; rfl
theorem intsOf_map : ∀ ls : List Int, intsOf (ls.map .int) = some ls
  | [] => rfl
  | s :: r => by show (intsOf (r.map .int)).map _ = _; rw [intsOf_map r]; rfl
theorem boolsOf_map : ∀ ls : List Bool, boolsOf (ls.map .bool) = some ls
  | [] => rfl
  | s :: r => by show (boolsOf (r.map .bool)).map _ = _; rw [boolsOf_map r]; rfl
theorem boolsOf_mapf {α : Type} (f : α → Bool) (ls : List α) : boolsOf (ls.map fun a => .bool (f a)) = some (ls.map f) := by
  rw [← boolsOf_map, List.map_map]; rfl
theorem intsOf_mapf {α : Type} (f : α → Int) (ls : List α) : intsOf (ls.map fun a => .int (f a)) = some (ls.map f) := by
  rw [← intsOf_map, List.map_map]; rfl
theorem strsOf_mapf {α : Type} (f : α → List Nat) (ls : List α) : strsOf (ls.map fun a => S (f a)) = some (ls.map f) := by
  rw [← strsOf_map, List.map_map]; rfl
/-- x in y -/
def cIn : PyData → PyData → Option Bool
  | d, .list ds => if (SeqAt.shaped d && SeqAt.shaped (.list ds)) = true then some (ds.any fun z => PyData.eqv z d) else none
  | .str x, .tuple ds => match strsOf ds with
    | some ls => some (decide (cs x ∈ ls))
    | none => none
  | .str x, .str y => match cs x with
    | [q] => some (decide (q ∈ cs y))
    | _ => none
  | _, _ => none
def cNi (d1 d2 : PyData) : Option Bool := (cIn d1 d2).map (!·)
def cIs : PyData → PyData → Option Bool
  | d, .none => some (isNone d)
  | .bool a, .bool b => some (decide (a = b))
  | _, _ => none
def cNis (d1 d2 : PyData) : Option Bool := (cIs d1 d2).map (!·)
def fIx : PyData → PyData → Option PyData
  | .tuple ds, .int n => atI ds n
  | .list ds, .int n => atI ds n
  | .str s, .int n => if (cs s).length ≤ 100000 then (atI (cs s) n).map fun q => S [q] else none
  | .dict kvs, .int n => (atI (kvs.map (·.1)) n).bind fun d => match d with
    | .int z => if (kvs.all fun kv => match kv.1, kv.2 with | .int _, .none => true | _, _ => false) = true then some (.int z) else none
    | _ => none
  | _, _ => none
section
variable {M : Md} {k : Nat} {N : List Str} {sc : Sco} {X : Cx} {W : WX}
theorem ok_add : Ok2 M k N (binaryOp .Add) fAdd := fun sc X W c d1 d2 d h => by
  unfold fAdd at h
  split at h
  · cases h; exact o_add
  · split at h
    · cases h; rename_i x y q; exact o_addS (s := cs x) (t := cs y) q
    · cases h
  · split at h
    · cases h; exact o_addL (by assumption)
    · cases h
  · split at h
    · cases h; exact o_addT c.toCv (by assumption)
    · cases h
  · cases h
theorem ok_sub : Ok2 M k N (binaryOp .Sub) fSub := fun sc X W c d1 d2 d h => by
  unfold fSub at h
  split at h
  · cases h; exact o_sub
  · cases h
theorem mulB_ok {m n : Int} (h : mulB m n = true) : CMul m n ∨ CMulW m n := by
  unfold mulB at h
  simp only [Bool.or_eq_true, Bool.and_eq_true, decide_eq_true_eq] at h
  rcases h with (h | h) | h
  · exact .inl (.inl h)
  · exact .inl (.inr h)
  · exact .inr h
theorem o_repT {ds : List PyData} {n : Int} (c : Cv M N sc X) (h : 2 ≤ n ∧ n ≤ 1000 ∧ ds.length ≤ 1000 ∧ ds.isEmpty = false) : Op2 M X (binaryOp .Mult) (.tuple ds) (.int n) (.tuple (List.replicate n.toNat ds).flatten) :=
  ⟨_, op_repT, fun B F σ H ρ u1 u2 I p1 p2 Q q => by
    cases p2
    cases p1 with
    | tup s al =>
      have hl := dpa_len al
      refine ⟨_, n, _, rfl, rfl, by rw [c.eK]; exact Evl.ex_t I.bh s, ?_, h.1, h.2.1, by rw [hl]; exact h.2.2.1, fun a ha => ?_⟩
      · intro z
        rw [z] at hl
        have h4 := h.2.2.2
        cases ds with
        | nil => cases h4
        | cons _ _ => cases hl
      · obtain ⟨s2, I2⟩ := I.new (o := .tup _) ha
        exact q _ _ _ s2 I2 (.tup (.inl (.inl upd_same)) (dpa_mono s2 (dpa_rep al _)))⟩
theorem o_repL {ds : List PyData} {n : Int} (h : 0 ≤ n ∧ n ≤ 100000 ∧ ds.length * n.toNat ≤ 100000) : Op2 M X (binaryOp .Mult) (.list ds) (.int n) (.list (List.replicate n.toNat ds).flatten) :=
  ⟨_, op_rep, fun B F σ H ρ u1 u2 I p1 p2 Q q => by
    cases p2
    cases p1 with
    | lst s al =>
      have hl := dpa_len al
      refine ⟨_, n, _, rfl, rfl, I.bh _ _ s, by omega, by omega, by rw [hl]; exact Evl.sz_of h.2.2, fun a ha => ?_⟩
      obtain ⟨s2, I2⟩ := I.new (o := .lst _) ha
      exact q _ _ _ s2 I2 (.lst upd_same (dpa_mono s2 (dpa_rep al _)))⟩
theorem ok_mul : Ok2 M k N (binaryOp .Mult) fMul := fun sc X W c d1 d2 d h => by
  unfold fMul at h
  split at h
  · split at h
    · rename_i q
      cases h
      rcases mulB_ok q with q | q
      · exact o_mul q
      · exact o_mulW q
    · cases h
  · split at h
    · cases h; rename_i x n q; exact o_mulS (l := cs x) ⟨q.1, q.2.1⟩ q.2.2
    · cases h
  · split at h
    · cases h; exact o_repL (by assumption)
    · cases h
  · split at h
    · cases h; exact o_repT c.toCv (by assumption)
    · cases h
  · cases h
theorem ok_div : Ok2 M k N (binaryOp .FloorDiv) fDiv := fun sc X W c d1 d2 d h => by
  unfold fDiv at h
  split at h
  · split at h
    · rename_i q
      cases h
      rcases q.2 with z | z
      · exact o_fdiv ⟨q.1, z⟩
      · exact o_fdivW ⟨q.1, z⟩
    · cases h
  · cases h
theorem ok_mod : Ok2 M k N (binaryOp .Mod) fMod := fun sc X W c d1 d2 d h => by
  unfold fMod at h
  split at h
  · split at h
    · cases h; exact o_mod (by assumption)
    · cases h
  · cases h
theorem ok_shl : Ok2 M k N (binaryOp .LShift) fShl := fun sc X W c d1 d2 d h => by
  unfold fShl at h
  split at h
  · split at h
    · cases h; exact o_shl (by assumption)
    · cases h
  · cases h
theorem ok_lt : OkC M k N (compareOp .Lt) cLt := fun sc X W c d1 d2 d h => by
  unfold cLt at h
  split at h
  · cases h; exact o_lt
  · cases h; rename_i x y; exact o_ltS (s := cs x) (t := cs y)
  · cases h
theorem ok_le : OkC M k N (compareOp .LtE) cLe := fun sc X W c d1 d2 d h => by
  unfold cLe at h
  split at h
  · cases h; exact o_le
  · cases h
theorem ok_gt : OkC M k N (compareOp .Gt) cGt := fun sc X W c d1 d2 d h => by
  unfold cGt at h
  split at h
  · cases h; exact o_gt
  · cases h
theorem ok_ge : OkC M k N (compareOp .GtE) cGe := fun sc X W c d1 d2 d h => by
  unfold cGe at h
  split at h
  · cases h; exact o_ge
  · cases h
theorem ok_eq : OkC M k N (compareOp .Eq) cEq := fun sc X W c d1 d2 d h => by
  unfold cEq at h
  split at h
  · cases h; exact o_eqI
  · cases h; rename_i x y; exact o_eqSS (s := cs x) (t := cs y)
  · split at h
    · rename_i q
      cases h
      rw [Bool.and_eq_true] at q
      exact o_eqD c.toCv q.1 q.2
    · cases h
theorem ok_ne : OkC M k N (compareOp .NotEq) cNe := fun sc X W c d1 d2 d h => by
  obtain ⟨b, h', rfl⟩ := map_not h
  clear h
  have h := h'
  clear h'
  unfold cEq at h
  split at h
  · cases h; exact o_neI
  · cases h; rename_i x y; exact o_neSS (s := cs x) (t := cs y)
  · split at h
    · rename_i q
      cases h
      rw [Bool.and_eq_true] at q
      exact o_neD c.toCv q.1 q.2
    · cases h
theorem ok_in : OkC M k N (compareOp .In) cIn := fun sc X W c d1 d2 d h => by
  unfold cIn at h
  split at h
  · split at h
    · rename_i q
      cases h
      rw [Bool.and_eq_true] at q
      exact o_inL c.toCv q.1 q.2
    · cases h
  · split at h
    · rename_i x ds o ls q
      cases h
      rw [strsOf_ok q]
      exact o_inT (t := cs x) c.toCv
    · cases h
  · split at h
    · rename_i x y o q1 q
      cases h
      have e : x = ⟨[q1].toArray⟩ := by rw [← q]; rfl
      rw [e]
      exact o_inS (t := cs y)
    · cases h
  · cases h
theorem ok_ni : OkC M k N (compareOp .NotIn) cNi := fun sc X W c d1 d2 d h => by
  obtain ⟨b, h', rfl⟩ := map_not h
  clear h
  have h := h'
  clear h'
  unfold cIn at h
  split at h
  · split at h
    · rename_i q
      cases h
      rw [Bool.and_eq_true] at q
      exact o_niL c.toCv q.1 q.2
    · cases h
  · split at h
    · rename_i x ds o ls q
      cases h
      rw [strsOf_ok q]
      exact o_niT (t := cs x) c.toCv
    · cases h
  · split at h
    · rename_i x y o q1 q
      cases h
      have e : x = ⟨[q1].toArray⟩ := by rw [← q]; rfl
      rw [e]
      exact o_niS (t := cs y)
    · cases h
  · cases h
theorem ok_is : OkC M k N (compareOp .Is) cIs := fun sc X W c d1 d2 d h => by
  unfold cIs at h
  split at h
  · cases h; exact o_isN
  · cases h; exact o_isB
  · cases h
theorem ok_nis : OkC M k N (compareOp .IsNot) cNis := fun sc X W c d1 d2 d h => by
  obtain ⟨b, h', rfl⟩ := map_not h
  clear h
  have h := h'
  clear h'
  unfold cIs at h
  split at h
  · cases h; exact o_notN
  · cases h; exact o_isnB
  · cases h
def scrOf : List (PyData × PyData) → Option (List Int)
  | [] => some []
  | (.int n, .none) :: r => (scrOf r).map (n :: ·)
  | _ :: _ => none
theorem scrOf_map : ∀ ns : List Int, scrOf (ns.map fun n => (.int n, .none)) = some ns
  | [] => rfl
  | n :: r => by show (scrOf (r.map _)).map _ = _; rw [scrOf_map r]; rfl
theorem scrOf_ok : ∀ {kvs : List (PyData × PyData)} {ns : List Int}, scrOf kvs = some ns → kvs = ns.map fun n => (.int n, .none)
  | [], ns, h => by cases h; rfl
  | (a, b) :: r, ns, h => by
    unfold scrOf at h
    split at h
    · rename_i q; cases q
    · rename_i n r' q
      cases q
      cases e : scrOf r with
      | none => rw [e] at h; cases h
      | some l => rw [e] at h; cases h; rw [List.map_cons, ← scrOf_ok e]
    · cases h
def fIt : PyData → PyData → Option PyData
  | .tuple ds, .int n => atI ds n
  | .list ds, .int n => atI ds n
  | .str s, .int n => if (cs s).length ≤ 100000 then (atI (cs s) n).map fun q => S [q] else none
  | .dict kvs, .int n => match scrOf kvs with
    | some ns => (atI ns n).map .int
    | none => none
  | _, _ => none
theorem ok_ix : OkIx M k N fIt := fun sc X W c d1 d2 d h => by
  unfold fIt at h
  split at h
  · exact ix_t c.toCv h
  · exact ix_l c.toCv h
  · split at h
    · rename_i s n q
      cases e : atI (cs s) n with
      | none => rw [e] at h; cases h
      | some z => rw [e] at h; cases h; exact ix_s (s := cs s) q e
    · cases h
  · split at h
    · rename_i kvs n o ns q
      cases e : atI ns n with
      | none => rw [e] at h; cases h
      | some z =>
        rw [e] at h
        cases h
        rw [scrOf_ok q]
        exact ix_scr c.toCv e
    · cases h
  · cases h
/-! ### built-ins -/
def fLen : List PyData → Option PyData
  | [.str s] => if (cs s).length ≤ 100000 then some (.int (cs s).length) else none
  | [.list ds] => some (.int ds.length)
  | [.tuple ds] => some (.int ds.length)
  | [.dict kvs] => match scrOf kvs with
    | some ns => some (.int ns.length)
    | none => none
  | _ => none
theorem ok_len : OkCl M k N (.builtin "len") fLen := fun sc X W c ds d h => by
  unfold fLen at h
  split at h
  · split at h
    · rename_i s q; cases h; exact cl_lenS (s := cs s) q
    · cases h
  · cases h; exact cl_len_lst c.toCv
  · cases h; exact cl_len_tup c.toCv
  · split at h
    · rename_i kvs o ns q
      cases h
      rw [scrOf_ok q]
      exact cl_len_scr c.toCv
    · cases h
  · cases h
def fAbs : List PyData → Option PyData
  | [.int m] => some (.int (if m < 0 then -m else m))
  | _ => none
theorem ok_abs : OkCl M k N (.builtin "abs") fAbs := fun sc X W c ds d h => by
  unfold fAbs at h
  split at h
  · cases h; exact cl_abs
  · cases h
def fTuple : List PyData → Option PyData
  | [.list ds] => some (.tuple ds)
  | [.tuple ds] => some (.tuple ds)
  | _ => none
theorem ok_tuple : OkCl M k N (.type "tuple") fTuple := fun sc X W c ds d h => by
  unfold fTuple at h
  split at h
  · cases h; exact cl_tuple_lst c.toCv
  · cases h; exact cl_tuple_tup c.toCv
  · cases h
def fList : List PyData → Option PyData
  | [.list ds] => some (.list ds)
  | [.tuple ds] => some (.list ds)
  | _ => none
theorem ok_list : OkCl M k N (.type "list") fList := fun sc X W c ds d h => by
  unfold fList at h
  split at h
  · cases h; exact cl_list_lst c.toCv
  · cases h; exact cl_list_tup c.toCv
  · cases h
def fAll : List PyData → Option PyData
  | [.list ds] => match boolsOf ds with
    | some bs => some (.bool (bs.all id))
    | none => none
  | _ => none
def fAny : List PyData → Option PyData
  | [.list ds] => match boolsOf ds with
    | some bs => some (.bool (bs.any id))
    | none => none
  | _ => none
theorem ok_all : OkCl M k N (.builtin "all") fAll := fun sc X W c ds d h => by
  unfold fAll at h
  split at h
  · split at h
    · rename_i q; cases h; rw [boolsOf_ok q]; exact cl_all (t := id) c.calm
    · cases h
  · cases h
theorem ok_any : OkCl M k N (.builtin "any") fAny := fun sc X W c ds d h => by
  unfold fAny at h
  split at h
  · split at h
    · rename_i q; cases h; rw [boolsOf_ok q]; exact cl_any (t := id) c.calm
    · cases h
  · cases h
def fSum : List PyData → Option PyData
  | [.list ds] => match intsOf ds with
    | some bs => some (.int bs.sum)
    | none => none
  | _ => none
theorem ok_sum : OkCl M k N (.builtin "sum") fSum := fun sc X W c ds d h => by
  unfold fSum at h
  split at h
  · split at h
    · rename_i bs q
      cases h
      rw [intsOf_ok q]
      have := cl_sum (M := M) (X := X) (xs := bs) (t := id) c.calm
      rwa [List.map_id] at this
    · cases h
  · cases h
def fMax : List PyData → Option PyData
  | [.int m, .int n] => some (.int (if n > m then n else m))
  | [.list ds] => match strsOf ds with
    | some (x :: r) => some (S (bestS gtB x r))
    | _ => none
  | _ => none
def fMin : List PyData → Option PyData
  | [.int m, .int n] => some (.int (if n < m then n else m))
  | [.list ds] => match strsOf ds with
    | some (x :: r) => some (S (bestS ltB x r))
    | _ => none
  | _ => none
theorem ok_max : OkCl M k N (.builtin "max") fMax := fun sc X W c ds d h => by
  unfold fMax at h
  split at h
  · cases h; exact cl_max2 c.calm
  · split at h
    · rename_i q; cases h; rw [strsOf_ok q]; exact cl_maxS c.calm
    · cases h
  · cases h
theorem ok_min : OkCl M k N (.builtin "min") fMin := fun sc X W c ds d h => by
  unfold fMin at h
  split at h
  · cases h; exact cl_min2 c.calm
  · split at h
    · rename_i q; cases h; rw [strsOf_ok q]; exact cl_minS c.calm
    · cases h
  · cases h
def fStr : List PyData → Option PyData
  | [.int m] => if m = 0 ∨ m = 1 then some (S [48 + m.toNat]) else none
  | _ => none
theorem ok_str : OkCl M k N (.type "str") fStr := fun sc X W c ds d h => by
  unfold fStr at h
  split at h
  · split at h
    · cases h; exact cl_strBit (by assumption)
    · cases h
  · cases h
def fInt : List PyData → Option PyData
  | [.bool b] => some (.int (if b = true then 1 else 0))
  | [.str s] => match cs s with
    | [q] => if q = 48 ∨ q = 49 then some (.int ((q : Int) - 48)) else none
    | _ => none
  | _ => none
theorem ok_int : OkCl M k N (.type "int") fInt := fun sc X W c ds d h => by
  unfold fInt at h
  split at h
  · cases h; exact cl_intBool
  · split at h
    · rename_i s o q hq
      split at h
      · cases h
        have e : s = ⟨[q].toArray⟩ := by rw [← hq]; rfl
        rw [e]
        exact cl_intSign (by assumption)
      · cases h
    · cases h
  · cases h
end
end Rl

namespace Rl
open PySem PySem.Spec PyProof.Rows L2 Dl
section
variable {M : Md} {k kf : Nat} {N : List Str} {xa : Nat → Addr} {sc : Sco} {scope : Scope} {tr : Bool} {e a b c' o elt tg iter : Expr} {es ifs : List Expr} {st : Stmt} {sts body q1 q2 : List Stmt} {pos p2 p3 p4 p5 apos : Pos} {x y z : Str} {i j l : Nat} {X : Cx} {W : WX} {ρ : List Sl} {C : Addr} {d : PyData}
variable {ra rb rc re ro : RE} {rt : RT} {rs : RA} {rn : RN} {s s1 s2 : RS} {p : Pat} {own : List (Str × Nat)}
/-- two parts, no exceptions -/
def rV2 (f : PyData → PyData → Option PyData) (a b : RE) : RE := fun ρ => vE (a ρ) fun d1 => vE (b ρ) fun d2 => (f d1 d2).map .ret
theorem rV2_inv {f : PyData → PyData → Option PyData} (h : rV2 f ra rb ρ = some (.ret d)) : ∃ d1 d2, ra ρ = some (.ret d1) ∧ rb ρ = some (.ret d2) ∧ f d1 d2 = some d := by
  obtain ⟨d1, h1, h⟩ := vE_inv h
  obtain ⟨d2, h2, h⟩ := vE_inv h
  exact ⟨d1, d2, h1, h2, map_ret h⟩
theorem rV2_exc {f : PyData → PyData → Option PyData} {c : Nat} (h : rV2 f ra rb ρ = some (.exc c)) : False := by
  obtain ⟨d1, h1, h⟩ := vE_inv h
  obtain ⟨d2, h2, h⟩ := vE_inv h
  exact map_exc h
/-! ### texts -/
def joinF (a : List Nat) (ds : List PyData) : Option PyData := match strsOf ds with
  | some ls => if (ls.map List.length).sum + ls.length * a.length ≤ 16777216 then some (S (TL.joinL a ls)) else none
  | none => none
def fJoin : PyData → PyData → Option PyData
  | .str a, .list ds => joinF (cs a) ds
  | .str a, .tuple ds => joinF (cs a) ds
  | _, _ => none
theorem joinF_ok {a : List Nat} {ds : List PyData} (h : joinF a ds = some d) : ∃ ls, ds = ls.map S ∧ (ls.map List.length).sum + ls.length * a.length ≤ 16777216 ∧ d = S (TL.joinL a ls) := by
  unfold joinF at h
  split at h
  · rename_i ls q
    split at h
    · cases h; exact ⟨ls, strsOf_ok q, by assumption, rfl⟩
    · cases h
  · cases h
theorem mt_joinT {a0 : List Nat} {ls : List (List Nat)} (c : Cv M N sc X) (hz : (ls.map List.length).sum + ls.length * a0.length ≤ 16777216) : Mt M X "str.join" (S a0) [.tuple (ls.map S)] (S (TL.joinL a0 ls)) := ⟨_, mt_join, fun B F σ H ρ v vs I p0 p Q q => by
  cases p0
  obtain ⟨v1, rfl, p1⟩ := inv_all1 p
  cases p1 with
  | tup sq al =>
    rename_i a1 xs
    have ev := strs_inv al
    subst ev
    refine ⟨⟨a0.toArray⟩, a1, ls.map fun t => ⟨t.toArray⟩, rfl, rfl, .inr (by rw [c.eK]; exact Evl.ex_t I.bh sq), ?_, ?_⟩
    · rw [List.map_map, List.length_map]
      refine Nat.le_trans (Nat.le_of_eq ?_) hz
      congr 1
    · have e : Txt.join ⟨a0.toArray⟩ (ls.map fun t => (⟨t.toArray⟩ : Str)) = ⟨(TL.joinL a0 ls).toArray⟩ := SX.join_S a0 ls
      rw [e]
      exact q _ _ _ (Same.refl B) I (.str _)⟩
theorem se_join (ho : SE M k N xa sc o ro) (he : SE M k N xa sc e re) (hs : ∀ env, starEach [e] env = [(false, eval e env)] := by intro _; rfl) (hbase : ∀ env, attributeBase o "join" env (eval o env) = eval o env := by intro _; rfl) (hline : (apos.endLine == pos.line) = true := by rfl) :
    SE M k N xa sc (.Call (.Attribute o "join" apos) [e] [] pos) (rV2 fJoin ro re) where
  ok X W c ρ d hh := by
    obtain ⟨d1, d2, h1, h2, h⟩ := rV2_inv hh
    unfold fJoin at h
    split at h
    · rename_i a ds
      obtain ⟨ls, rfl, g1, rfl⟩ := joinF_ok h
      exact de_join (a0 := cs a) c.toCv (ho.ok X W c ρ _ h1) (he.ok X W c ρ _ h2) g1 (hs _) (hbase _) hline
    · rename_i a ds
      obtain ⟨ls, rfl, g1, rfl⟩ := joinF_ok h
      exact de_m1 PySem.F.slot_str_join PySem.F.type_str_join (ho.ok X W c ρ _ h1) (he.ok X W c ρ _ h2) (mt_joinT (a0 := cs a) c.toCv g1) (hs _) (hbase _) hline
    · cases h
  ex X W c ρ c' hh := (rV2_exc hh).elim
def fStarts : PyData → PyData → Option PyData
  | .str a, .str b => some (.bool (decide ((cs a).take (cs b).length = cs b)))
  | _, _ => none
theorem se_starts (ho : SE M k N xa sc o ro) (he : SE M k N xa sc e re) (hs : ∀ env, starEach [e] env = [(false, eval e env)] := by intro _; rfl) (hbase : ∀ env, attributeBase o "startswith" env (eval o env) = eval o env := by intro _; rfl) (hline : (apos.endLine == pos.line) = true := by rfl) :
    SE M k N xa sc (.Call (.Attribute o "startswith" apos) [e] [] pos) (rV2 fStarts ro re) where
  ok X W c ρ d hh := by
    obtain ⟨d1, d2, h1, h2, h⟩ := rV2_inv hh
    unfold fStarts at h
    split at h
    · rename_i a b
      cases h
      exact de_starts (s := cs a) (t := cs b) (ho.ok X W c ρ _ h1) (he.ok X W c ρ _ h2) (hs _) (hbase _) hline
    · cases h
  ex X W c ρ c' hh := (rV2_exc hh).elim
def fSplit : PyData → PyData → Option PyData
  | .str a, .str b => if ((cs b).isEmpty = false ∧ (cs b).all (· < 256) = true) ∧ (cs a).length ≤ 100000 then some (.list ((TL.spl (cs b) 0 [] (cs a)).map S)) else none
  | _, _ => none
theorem dqa_strs' {K : PySem.W.Frag} {B : Hp} : ∀ l : List (List Nat), DqAll K B ((l.map SX.S).map V.str) (l.map S)
  | [] => .nil
  | t :: r => .cons (.str _) (dqa_strs' r)
theorem de_split {s t : List Nat} (ho : DE M X o ρ (S s)) (he : DE M X e ρ (S t)) (ht : t ≠ []) (h2 : t.all (· < 256) = true) (h3 : s.length ≤ 100000) (hs : starEach [e] X.env = [(false, eval e X.env)]) (hbase : attributeBase o "split" X.env (eval o X.env) = eval o X.env) (hline : (apos.endLine == pos.line) = true) :
    DE M X (.Call (.Attribute o "split" apos) [e] [] pos) ρ (.list ((TL.spl t 0 [] s).map S)) := by
  refine de_m1 PySem.F.slot_str_split PySem.F.type_str_split ho he ⟨_, mt_split, fun B F σ H ρ v vs I p0 p Q k => ?_⟩ hs hbase hline
  cases p0
  obtain ⟨v1, rfl, p1⟩ := inv_all1 p
  cases p1
  refine ⟨_, _, rfl, rfl, ?_, ?_, fun a ha => ?_⟩
  · cases t with
    | nil => exact absurd rfl ht
    | cons _ _ => rfl
  · show s.toArray.size + 2 ≤ _
    rw [List.size_toArray]
    have := sizeLine_eq
    omega
  · obtain ⟨s2, I2⟩ := I.new (o := .lst ((Txt.split ⟨s.toArray⟩ ⟨t.toArray⟩).map V.str)) ha
    refine k _ _ _ s2 I2 (.lst upd_same ?_)
    have e2 : Txt.split ⟨s.toArray⟩ ⟨t.toArray⟩ = (TL.spl t 0 [] s).map SX.S := SX.split_S ht h2
    rw [e2]
    exact dqa_strs' _
theorem se_split (ho : SE M k N xa sc o ro) (he : SE M k N xa sc e re) (hs : ∀ env, starEach [e] env = [(false, eval e env)] := by intro _; rfl) (hbase : ∀ env, attributeBase o "split" env (eval o env) = eval o env := by intro _; rfl) (hline : (apos.endLine == pos.line) = true := by rfl) :
    SE M k N xa sc (.Call (.Attribute o "split" apos) [e] [] pos) (rV2 fSplit ro re) where
  ok X W c ρ d hh := by
    obtain ⟨d1, d2, h1, h2, h⟩ := rV2_inv hh
    unfold fSplit at h
    split at h
    · rename_i a b
      split at h
      · rename_i q
        cases h
        exact de_split (s := cs a) (t := cs b) (ho.ok X W c ρ _ h1) (he.ok X W c ρ _ h2) (fun z => by rw [z] at q; cases q.1.1) q.1.2 q.2 (hs _) (hbase _) hline
      · cases h
    · cases h
  ex X W c ρ c' hh := (rV2_exc hh).elim
/-! ### count, index -/
def fCount : PyData → PyData → Option PyData
  | .list ds, d => if (ds.all flatD && flatD d) = true then some (.int (cntD d ds)) else none
  | _, _ => none
theorem se_count (ho : SE M k N xa sc o ro) (he : SE M k N xa sc e re) (hbase : ∀ env, attributeBase o "count" env (eval o env) = eval o env := by intro _; rfl)
    (hfew : ∀ env, ((backTo pos (starEach [e] env)).all (fun x => !x.1) && (backToKw pos (keywordEach [] env)).all (fun x => x.1.isSome) && decide ([e].length + ([] : List Keyword).length + (if ([] : List Keyword).isEmpty then 0 else 1) < 30)) = true := by intro _; rfl)
    (hline : (apos.endLine == pos.line) = true := by rfl) (hs : ∀ env, starEach [e] env = (false, eval e env) :: starEach [] env := by intro _; rfl) (hplain : ∀ env, (backTo pos (starEach [] env)).any (·.1) = false := by intro _; rfl) :
    SE M k N xa sc (.Call (.Attribute o "count" apos) [e] [] pos) (rV2 fCount ro re) where
  ok X W c ρ d hh := by
    obtain ⟨d1, d2, h1, h2, h⟩ := rV2_inv hh
    unfold fCount at h
    split at h
    · split at h
      · rename_i q
        cases h
        rw [Bool.and_eq_true] at q
        exact de_count c.toCv (ho.ok X W c ρ _ h1) (he.ok X W c ρ _ h2) q.1 q.2 (hbase _) (hfew _) hline (hs _) (hplain _)
      · cases h
    · cases h
  ex X W c ρ c' hh := (rV2_exc hh).elim
/-- where the first is for which f holds -/
def fstI {α : Type} (f : α → Bool) : List α → Option Nat
  | [] => none
  | a :: r => if f a = true then some 0 else (fstI f r).map (· + 1)
theorem fstI_ok {α : Type} {f : α → Bool} : ∀ {l : List α} {j : Nat}, fstI f l = some j → (∃ a, l[j]? = some a ∧ f a = true) ∧ ∀ (m : Nat) a, m < j → l[m]? = some a → f a = false
  | [], _, h => by cases h
  | a :: r, j, h => by
    unfold fstI at h
    split at h
    · rename_i q
      cases h
      exact ⟨⟨a, rfl, q⟩, fun m b hm => by omega⟩
    · rename_i q
      cases e : fstI f r with
      | none => rw [e] at h; cases h
      | some j' =>
        rw [e] at h
        cases h
        obtain ⟨⟨b, h1, h2⟩, h3⟩ := fstI_ok e
        refine ⟨⟨b, h1, h2⟩, fun m b' hm hb => ?_⟩
        cases m with
        | zero => cases hb; simpa using q
        | succ m => exact h3 m b' (Nat.lt_of_succ_lt_succ hm) hb
def fIndex : PyData → PyData → Option PyData
  | .list ds, d => if (ds.all flatD && flatD d) = true then (fstI (fun z => eqV z (vD d)) (ds.map vD)).map fun j => .int (j : Nat) else none
  | .str a, .str b => match cs b with
    | [q] => (fstI (fun z => decide (z = q)) (cs a)).map fun j => .int (j : Nat)
    | _ => none
  | _, _ => none
theorem se_index (ho : SE M k N xa sc o ro) (he : SE M k N xa sc e re) (hbase : ∀ env, attributeBase o "index" env (eval o env) = eval o env := by intro _; rfl)
    (hfew : ∀ env, ((backTo pos (starEach [e] env)).all (fun x => !x.1) && (backToKw pos (keywordEach [] env)).all (fun x => x.1.isSome) && decide ([e].length + ([] : List Keyword).length + (if ([] : List Keyword).isEmpty then 0 else 1) < 30)) = true := by intro _; rfl)
    (hline : (apos.endLine == pos.line) = true := by rfl) (hs : ∀ env, starEach [e] env = (false, eval e env) :: starEach [] env := by intro _; rfl) (hplain : ∀ env, (backTo pos (starEach [] env)).any (·.1) = false := by intro _; rfl) :
    SE M k N xa sc (.Call (.Attribute o "index" apos) [e] [] pos) (rV2 fIndex ro re) where
  ok X W c ρ d hh := by
    obtain ⟨d1, d2, h1, h2, h⟩ := rV2_inv hh
    unfold fIndex at h
    split at h
    · split at h
      · rename_i q
        rw [Bool.and_eq_true] at q
        rename_i ds
        cases e2 : fstI (fun z => eqV z (vD d2)) (ds.map vD) with
        | none => rw [e2] at h; cases h
        | some j =>
          rw [e2] at h
          cases h
          obtain ⟨⟨z', g1, g2⟩, g3⟩ := fstI_ok e2
          exact de_index c.toCv (ho.ok X W c ρ _ h1) (he.ok X W c ρ _ h2) q.1 q.2 g1 g2 g3 (hbase _) (hfew _) hline (hs _) (hplain _)
      · cases h
    · split at h
      · rename_i a b oo q hq
        cases e2 : fstI (fun z => decide (z = q)) (cs a) with
        | none => rw [e2] at h; cases h
        | some j =>
          rw [e2] at h
          cases h
          obtain ⟨⟨z', g1, g2⟩, g3⟩ := fstI_ok e2
          have eb : b = ⟨[q].toArray⟩ := by rw [← hq]; rfl
          rw [eb] at h2
          have g2 := of_decide_eq_true g2
          subst g2
          exact de_sindex (t := cs a) (ho.ok X W c ρ _ h1) (he.ok X W c ρ _ h2) g1 (fun m hm hz => by have := g3 m _ hm hz; simp at this) (hs _) (hbase _) hline
      · cases h
    · cases h
  ex X W c ρ c' hh := (rV2_exc hh).elim
end
end Rl

namespace Rl
open PySem PySem.Spec PyProof.Rows L2 Dl
/-! ### isinstance -/
def isB (T : String) (d : PyData) : Bool := decide (tyD d = T) || (decide (T = "int") && decide (tyD d = "bool"))
def okT (T : String) : Bool := decide (T = "tuple") || decide (T = "bool") || decide (T = "int") || decide (T = "str") || decide (T = "list")
theorem isB_kit {K : PySem.W.Frag} {T : String} (hT : okT T = true) (d : PyData) : PySem.W.kitOne K (.type (tyD d)) (.type T) = some (isB T d) := by
  refine kit_ty ?_
  unfold okT at hT
  simp only [Bool.or_eq_true, decide_eq_true_eq] at hT
  rcases hT with (((rfl | rfl) | rfl) | rfl) | rfl <;> cases d <;> (first | (show kitB "NoneType" _ = some (isB _ .none); decide +kernel) | (show kitB "bool" _ = some (isB _ (.bool true)); decide +kernel) | (show kitB "int" _ = some (isB _ (.int 0)); decide +kernel) | (show kitB "str" _ = some (isB _ (.str ⟨#[]⟩)); decide +kernel) | (show kitB "list" _ = some (isB _ (.list [])); decide +kernel) | (show kitB "tuple" _ = some (isB _ (.tuple [])); decide +kernel))
section
variable {M : Md} {k kf : Nat} {N : List Str} {xa : Nat → Addr} {sc : Sco} {scope : Scope} {tr : Bool} {e a b c' o elt tg iter : Expr} {es ifs : List Expr} {st : Stmt} {sts body q1 q2 : List Stmt} {pos p2 p3 p4 p5 apos : Pos} {x y z : Str} {i j l : Nat} {X : Cx} {W : WX} {ρ : List Sl} {C : Addr} {d : PyData}
variable {ra rb rc re ro : RE} {rt : RT} {rs : RA} {rn : RN} {s s1 s2 : RS} {p : Pat} {own : List (Str × Nat)}
def isiF (o b : Bool) : Option RO := if o = true then none else some (.ret (.bool b))
theorem isiF_inv {o b : Bool} {d : PyData} (h : isiF o b = some (.ret d)) : o = false ∧ d = .bool b := by
  cases o with
  | true => cases h
  | false => cases h; exact ⟨rfl, rfl⟩
theorem isiF_exc {o b : Bool} {c : Nat} (h : isiF o b = some (.exc c)) : False := by cases o <;> cases h
def rIsi (T : String) (a : RE) : RE := fun ρ => vE (a ρ) fun d => isiF (isOb d) (isB T d)
theorem se_isi {T : String} {q : Pos} (hm : M.mg "isinstance" = none) (ha : SE M k N xa sc a ra) (hx : M.mg x = none) (hv : bootBuiltins x = some (.type T)) (hT : okT T = true := by decide) (hg : (glB sc x && okN x) = true := by decide +kernel)
    (he : ∀ env, starEach [a, .Name x p2] env = (false, eval a env) :: starEach [.Name x p2] env := by intro _; rfl) (hpl : ∀ env, (backTo pos (starEach [.Name x p2] env)).any (·.1) = false := by intro _; rfl) (hg2 : (glB sc "isinstance" && okN "isinstance") = true := by decide +kernel) : SE M k N xa sc (.Call (.Name "isinstance" q) [a, .Name x p2] [] pos) (rIsi T ra) where
  ok X W c ρ d hh := by
    obtain ⟨d1, h1, hh⟩ := vE_inv hh
    obtain ⟨hO, rfl⟩ := isiF_inv hh
    exact de_isi c.toCv hm (ha.ok X W c ρ _ h1) hO (dc_ty c.toCv hx hv hg) (.ty _) (isB_kit hT d1) (he _) rfl (hpl _) hg2
  ex X W c ρ c' hh := by
    obtain ⟨d1, h1, hh⟩ := vE_inv hh
    exact (isiF_exc hh).elim
def rIsi2 (T U : String) (a : RE) : RE := fun ρ => vE (a ρ) fun d => isiF (isOb d) (isB T d || isB U d)
theorem se_isi2 {T U : String} {q p4 : Pos} {x1} (hm : M.mg "isinstance" = none) (ha : SE M k N xa sc a ra) (hx : M.mg x = none) (hv : bootBuiltins x = some (.type T)) (hy : M.mg y = none) (hw : bootBuiltins y = some (.type U)) (hT : okT T = true := by decide) (hU : okT U = true := by decide) (hg : (glB sc x && okN x) = true := by decide +kernel) (hgy : (glB sc y && okN y) = true := by decide +kernel)
    (he : ∀ env, starEach [a, .Tuple [.Name x p2, .Name y p3] x1 p4] env = (false, eval a env) :: starEach [.Tuple [.Name x p2, .Name y p3] x1 p4] env := by intro _; rfl) (hpl : ∀ env, (backTo pos (starEach [.Tuple [.Name x p2, .Name y p3] x1 p4] env)).any (·.1) = false := by intro _; rfl) (hg2 : (glB sc "isinstance" && okN "isinstance") = true := by decide +kernel) : SE M k N xa sc (.Call (.Name "isinstance" q) [a, .Tuple [.Name x p2, .Name y p3] x1 p4] [] pos) (rIsi2 T U ra) where
  ok X W c ρ d hh := by
    obtain ⟨d1, h1, hh⟩ := vE_inv hh
    obtain ⟨hO, rfl⟩ := isiF_inv hh
    refine de_isiT c.toCv hm (ha.ok X W c ρ _ h1) hO (dcs_cons (dc_ty c.toCv hx hv hg) (dcs_cons (dc_ty c.toCv hy hw hgy) dcs_nil)) (by show (2 : Nat) ≤ 1000; decide) (.cons (.ty _) (.cons (.ty _) .nil)) ?_ (he _) rfl (hpl _) hg2
    refine kitAny_cons (isB_kit hT d1) (fun z => ?_) (fun z => by rw [z]; rfl)
    rw [z, Bool.false_or]
    exact kitAny_cons (isB_kit hU d1) (fun z => by rw [z]; rfl) (fun z => z)
  ex X W c ρ c' hh := by
    obtain ⟨d1, h1, hh⟩ := vE_inv hh
    exact (isiF_exc hh).elim
/-! ### a or b, by truth -/
def rOrT (a b : RE) : RE := fun ρ => vE (a ρ) fun d => match truD d with
  | some true => some (.ret d)
  | some false => vE (b ρ) fun d2 => some (.ret d2)
  | none => none
theorem se_orT (h : SE M k N xa sc a ra) (h2 : SE M k N xa sc (.BoolOp .Or (b :: es) pos) rb) : SE M k N xa sc (.BoolOp .Or (a :: b :: es) pos) (rOrT ra rb) where
  ok X W c ρ d hh := by
    obtain ⟨d1, h1, hh⟩ := vE_inv hh
    split at hh
    · rename_i q
      cases hh
      obtain ⟨q1, q2⟩ := truD_ok q
      exact de_of (pe_orT pe_sem pe_sem) fun B F σ H I Q k => h.ok X W c ρ _ h1 B F σ H I _ fun v H' B' s I' p => ⟨tru d, by rw [c.eK]; exact tru_of I'.bh p q1, by rw [← q2, if_pos rfl]; exact k v H' B' s I' p⟩
    · rename_i q
      obtain ⟨d2, h3, hh⟩ := vE_inv hh
      cases hh
      obtain ⟨q1, q2⟩ := truD_ok q
      exact de_of (pe_orT pe_sem pe_sem) fun B F σ H I Q k => h.ok X W c ρ _ h1 B F σ H I _ fun v H' B' s I' p => ⟨tru d1, by rw [c.eK]; exact tru_of I'.bh p q1, by rw [← q2, if_neg Bool.false_ne_true]; exact h2.ok X W c ρ _ h3 B' F σ H' I' Q fun v2 H2 B2 s2 I2 p2 => k v2 H2 B2 (s.trans s2) I2 p2⟩
    · cases hh
  ex X W c ρ c' hh := by
    obtain ⟨d1, h1, hh⟩ := vE_inv hh
    split at hh
    · cases hh
    · obtain ⟨d2, h3, hh⟩ := vE_inv hh
      cases hh
    · cases hh
/-! ### dicts that a slot owns -/
def gD : List Sl → Nat → Option (List (Key × PyData))
  | [], _ => none
  | s :: _, 0 => match s with
    | .od d => some d
    | _ => none
  | _ :: r, n + 1 => gD r n
theorem gD_get : ∀ {ρ : List Sl} {i : Nat} {d : List (Key × PyData)}, gD ρ i = some d → Get i (.od d) ρ
  | [], _, _, h => by cases h
  | s :: r, 0, d, h => by
    cases s with
    | od e => cases h; exact .z
    | _ => cases h
  | s :: r, i + 1, d, h => .s (gD_get (ρ := r) h)
def keyOf : PyData → Option Key
  | .int n => some (.inl n)
  | .str x => some (.inr x)
  | _ => none
theorem keyOf_ok {d : PyData} {q : Key} (h : keyOf d = some q) : d = keyD q := by
  cases d <;> first | (cases h; rfl) | cases h
def sDNew (i : Nat) : RS := fun ρ => nxO (sS ρ i (.od []))
theorem ss_dnew (hi : Get i x N) (hl : locB sc x = true := by decide +kernel) : SS M k N xa sc tr (.Assign [.Name x p2] (.Dict [] [] p3) pos) (sDNew i) := ⟨fun X W c t ρ r hh => by
  obtain ⟨ρ', e2, rfl⟩ := nxO_inv hh
  exact ds_dnew c.toCv hi (sS_set e2) rfl hl⟩
def sDPut (i : Nat) (a b : RE) : RS := fun ρ => vE (a ρ) fun dk => vE (b ρ) fun d => match gD ρ i, keyOf dk with
  | some kvs, some q => if kvs.length < 10000000 then nxO (sS ρ i (.od (putD kvs q d))) else none
  | _, _ => none
theorem ss_dput (hi : Get i x N) (ha : SE M k N xa sc a ra) (hb : SE M k N xa sc b rb) (hs : ∀ env, swapsWith b (some (.Subscript (.Name x p2) a p3)) pos.line env = pure false := by intro _; rfl) (hv : (visB sc x && okN x) = true := by decide +kernel) :
    SS M k N xa sc tr (.Assign [.Subscript (.Name x p2) a p3] b pos) (sDPut i ra rb) := ⟨fun X W c t ρ r hh => by
  obtain ⟨dk, h1, hh⟩ := vE_inv hh
  obtain ⟨d, h2, hh⟩ := vE_inv hh
  split at hh
  · rename_i kvs q e1 e2
    split at hh
    · obtain ⟨ρ', e3, rfl⟩ := nxO_inv hh
      rw [keyOf_ok e2] at h1
      exact ds_dput c.toCv hi (gD_get e1) (ha.ok X W c ρ _ h1) (hb.ok X W c ρ _ h2) (sS_set e3) (by assumption) rfl (hs _) hv
    · cases hh
  · cases hh⟩
def rDGet (i : Nat) (a : RE) : RE := fun ρ => vE (a ρ) fun dk => match gD ρ i, keyOf dk with
  | some kvs, some q => (Dl.getD kvs q).map .ret
  | _, _ => none
theorem se_dget (hi : Get i x N) (ha : SE M k N xa sc a ra) (hs : NoSl a := by intro _ _; rfl) (hv : (visB sc x && okN x) = true := by decide +kernel) : SE M k N xa sc (.Subscript (.Name x p2) a pos) (rDGet i ra) where
  ok X W c ρ d hh := by
    obtain ⟨dk, h1, hh⟩ := vE_inv hh
    split at hh
    · rename_i kvs q e1 e2
      rw [keyOf_ok e2] at h1
      exact de_dget c.toCv hi (gD_get e1) (ha.ok X W c ρ _ h1) (map_ret hh) hs hv
    · cases hh
  ex X W c ρ c' hh := by
    obtain ⟨dk, h1, hh⟩ := vE_inv hh
    split at hh
    · exact (map_exc hh).elim
    · cases hh
def rDGet2 (i : Nat) (a b : RE) : RE := fun ρ => vE (a ρ) fun dk => vE (b ρ) fun d => match gD ρ i, keyOf dk with
  | some kvs, some q => some (.ret ((Dl.getD kvs q).getD d))
  | _, _ => none
theorem se_dget2 (hi : Get i x N) (ha : SE M k N xa sc a ra) (hb : SE M k N xa sc b rb) (hm : ∀ X, M2 X (.Name x p2) "get" apos a b pos) (hv : (visB sc x && okN x) = true := by decide +kernel) : SE M k N xa sc (.Call (.Attribute (.Name x p2) "get" apos) [a, b] [] pos) (rDGet2 i ra rb) where
  ok X W c ρ d hh := by
    obtain ⟨dk, h1, hh⟩ := vE_inv hh
    obtain ⟨d2, h2, hh⟩ := vE_inv hh
    split at hh
    · rename_i kvs q e1 e2
      cases hh
      rw [keyOf_ok e2] at h1
      exact de_dget2 c.toCv hi (gD_get e1) (ha.ok X W c ρ _ h1) (hb.ok X W c ρ _ h2) (hm X) hv
    · cases hh
  ex X W c ρ c' hh := by
    obtain ⟨dk, h1, hh⟩ := vE_inv hh
    obtain ⟨d2, h2, hh⟩ := vE_inv hh
    split at hh <;> cases hh
def keysS : List (Key × PyData) → Option (List (List Nat × PyData))
  | [] => some []
  | (.inr x, d) :: r => (keysS r).map ((cs x, d) :: ·)
  | _ :: _ => none
theorem keysS_ok : ∀ {kvs : List (Key × PyData)} {ts : List (List Nat × PyData)}, keysS kvs = some ts → kvs = ts.map fun t => (Sum.inr ⟨t.1.toArray⟩, t.2)
  | [], ts, h => by cases h; rfl
  | (.inr x, d) :: r, ts, h => by
    unfold keysS at h
    cases e : keysS r with
    | none => rw [e] at h; cases h
    | some l => rw [e] at h; cases h; rw [List.map_cons, ← keysS_ok e]; rfl
  | (.inl n, d) :: r, ts, h => by cases h
theorem keysS_map (ts : List (List Nat × PyData)) : keysS (ts.map fun t => (Sum.inr ⟨t.1.toArray⟩, t.2)) = some ts := by
  induction ts with
  | nil => rfl
  | cons t r ih => show (keysS (r.map _)).map _ = _; rw [ih]; rfl
def rSortD (i : Nat) : RE := fun ρ => match gD ρ i with
  | some kvs => match keysS kvs with
    | some ts => if ts.length < 64 then some (.ret (.list ((sortS (ts.map (·.1))).map S))) else none
    | none => none
  | none => none
theorem se_sortD (hi : Get i x N) (hm : M.mg "sorted" = none) (hv : (visB sc x && okN x) = true := by decide +kernel) (hg : glB sc "sorted" = true := by decide +kernel) : SE M k N xa sc (.Call (.Name "sorted" p3) [.Name x p2] [] pos) (rSortD i) where
  ok X W c ρ d hh := by
    unfold rSortD at hh
    split at hh
    · rename_i kvs q
      split at hh
      · rename_i ts e1
        split at hh
        · cases hh
          have g := gD_get q
          rw [keysS_ok e1] at g
          exact de_sortedD c hm hi g (by assumption) hv hg
        · cases hh
      · cases hh
    · cases hh
  ex X W c ρ c' hh := by
    unfold rSortD at hh
    split at hh
    · split at hh
      · split at hh <;> cases hh
      · cases hh
    · cases hh
/-! ### try: .. except T as e: return word(e) -/
theorem setAt_lt : ∀ {ρ : List Sl} {i : Nat} {s : Sl}, i < ρ.length → SetAt i s ρ (ρ.set i s)
  | [], _, _, h => by cases h
  | _ :: _, 0, _, _ => .z
  | _ :: r, i + 1, s, h => .s (setAt_lt (ρ := r) (Nat.lt_of_succ_lt_succ h))
def noSlot : List Sl → Nat → List Sl
  | [], _ => []
  | _ :: r, 0 => .no :: r
  | x :: r, n + 1 => x :: noSlot r n
theorem noSlot_set : ∀ (ρ : List Sl) (i : Nat), noSlot ρ i = ρ.set i .no
  | [], _ => rfl
  | _ :: _, 0 => rfl
  | x :: r, n + 1 => by show x :: noSlot r n = _; rw [noSlot_set r n]; rfl
def sTryW (i : Nat) (w : Nat → Option PyData) (s : RS) : RS := fun ρ => match s ρ with
  | some (.ex c ρ') => if i < ρ'.length then (w c).map fun d => .rt d (noSlot ρ' i) else none
  | r => r
theorem ss_tryW {n f : Str} {T : Addr} {np pos' q3 : Pos} {w : Nat → Option PyData} {ψ : Addr → PyData → Prop} (hi : Get i n N) (hT : M.mg x = some (.ref T)) (hc : ∀ c d, w c = some d → PySem.W.exmOne M.K (.ref (xa c)) (.ref T) = some true ∧ ψ (xa c) d) (G : FokE M kf f ψ) (hk : kf ≤ k)
    (hb : SB M k N xa sc false body s) (hs : ∀ env, starEach [.Name n p4] env = (false, eval (.Name n p4) env) :: starEach [] env := by intro _; rfl) (hln : sc.rd.names.lookup n = some .local := by decide +kernel) (hg : (glB sc x && okN x) = true := by decide +kernel) (hgf : (glB sc f && okN f) = true := by decide +kernel) (hvn : (visB sc n && okN n) = true := by decide +kernel) :
    SS M k N xa sc true (.Try body [.ExceptHandler (some (.Name x np)) (some n) [.Return (some (.Call (.Name f p2) [.Name n p4] [] p3)) q3] pos'] [] [] pos) (sTryW i w s) := ⟨fun X W c t ρ r hh => by
  unfold sTryW at hh
  cases e1 : s ρ with
  | none => rw [e1] at hh; cases hh
  | some r1 =>
    rw [e1] at hh
    refine ds_tryAs c (t rfl) hi hT (fun C ρ' => ∃ c1, C = xa c1 ∧ r1 = .ex c1 ρ') (fun X' W' c' => ?_) (fun C ρ' hm => ?_) hln hg
    · refine db_weak (hb.ok X' W' c' (fun z => by cases z) ρ r1 e1) ?_ ?_ ?_ ?_ ?_
      · rintro ρ2 rfl; cases hh; rfl
      · intro d2 ρ2 z; cases (show r1 = .rt d2 ρ2 from z); cases hh; rfl
      · rintro C ρ2 ⟨c2, rfl, z⟩; exact ⟨c2, rfl, z⟩
      · intro ρ2 z; cases (show r1 = .bk ρ2 from z); cases hh; rfl
      · intro ρ2 z; cases (show r1 = .ct ρ2 from z); cases hh; rfl
    · obtain ⟨c1, rfl, rfl⟩ := hm
      dsimp only at hh
      split at hh
      · rename_i hlt
        cases hw : w c1 with
        | none => rw [hw] at hh; cases hh
        | some d =>
          rw [hw] at hh
          cases hh
          obtain ⟨h1, h2⟩ := hc c1 d hw
          refine ⟨true, h1, fun _ X' a hx => ?_, fun z => by cases z⟩
          have hset : SetAt i (.r (.ref a)) ρ' (ρ'.set i (.r (.ref a))) := setAt_lt hlt
          refine ⟨ρ'.set i (.r (.ref a)), hset, db_cons (ds_of (ps_ret pe_sem) fun B F σ H I E f => ?_)⟩
          have hd : DE M X' (.Call (.Name _ p2) [.Name n p4] [] p3) (ρ'.set i (.r (.ref a))) d := de_callE hx G hk (dc_raw hx.toCv i hi.at (List.getElem?_set_self hlt) hvn) h2 (hs _) rfl hgf
          refine hd B F σ H I _ fun v H' B' s2 I' pv => ?_
          refine f.rt d (noSlot ρ' i) v σ H' B' rfl s2 (I'.le ?_) pv
          rw [noSlot_set]
          refine ⟨by rw [List.length_set, List.length_set], fun j s hs => ?_⟩
          by_cases hj : i = j
          · subst hj
            rw [List.getElem?_set_self hlt] at hs
            cases hs
            exact .inl rfl
          · rw [List.getElem?_set_ne hj] at hs ⊢
            exact .inr hs
      · cases hh⟩
end
end Rl

namespace Rl
open PySem PySem.Spec PyProof.Rows L2 Dl
/-! ### try: .. except T: return e -/
theorem traced_imp {h B : Heap} {e : Addr} {Z Z' : Obj → Prop} {v : Value} (hz : ∀ o, Z o → Z' o) (t : HandSPX.TracedZ h B e Z v) : HandSPX.TracedZ h B e Z' v := by
  obtain ⟨oe, a1, a2, a3, a4, a5, a6, a7⟩ := t
  exact ⟨oe, a1, a2, a3, a4, a5, hz _ a6, a7⟩
theorem sky_imp {B : Heap} {l : List Env} {a L : Addr} {Z Z' : Obj → Prop} {h : Heap} (hz : ∀ o, Z o → Z' o) (s : Sky B l a Z L h) : Sky B l a Z' L h := by
  rcases s with ⟨q1, q2, q3, oe, vs, q4, q5, q6, q7⟩ | ⟨q1, q2, q3, q4⟩ | ⟨q1, q2, q3, q4⟩
  · exact .inl ⟨q1, q2, q3, oe, vs, q4, hz _ q5, q6, q7⟩
  · exact .inr (.inl ⟨q1, q2, q3, traced_imp hz q4⟩)
  · exact .inr (.inr ⟨q1, q2, q3, traced_imp hz q4⟩)
theorem takes_n {X : Cx} {W : WX} (t : L2.Takes X W) : L2N.Takes X W := fun u s' x => by
  obtain ⟨a, B, sI, pins, σ, H, cls, d, g1, g2, g3, g4, g5, g6, g7, g8, g9⟩ := x
  exact t u s' ⟨a, B, sI, pins, σ, H, cls, d, g1, g2, g3, g4, sky_imp (fun o z => z.zc) g5, g6, g7, g8, g9⟩
section
variable {M : Md} {k kf : Nat} {N : List Str} {xa : Nat → Addr} {sc : Sco} {e : Expr} {body : List Stmt} {pos p2 p3 p4 p5 : Pos} {x y z : Str} {i j l : Nat} {X : Cx} {W : WX} {ρ : List Sl} {C : Addr} {d : PyData} {nx : List Sl → Prop} {R : REnds}
variable {ra rb rc re : RE} {s s1 s2 : RS}
theorem ds_tryOnly {T : Addr} {suite : List Stmt} {b₀ : Stmt} {np pos' : Pos} (c : Cn M k N sc X W) (tr : Tr X) (hT : M.mg x = some (.ref T)) (mid : Addr → List Sl → Prop) (hb : ∀ X' W', Cn M k N sc X' W' → DB M X' W' body ρ nx { R with ex := mid })
    (hsu : ∀ C ρ', mid C ρ' → PySem.W.exmOne M.K (.ref C) (.ref T) = some true ∧ ∀ X', Cv M N sc X' → DB M X' Wf (b₀ :: suite) ρ' nx { rt := R.rt, bk := R.bk, ct := R.ct }) (hg : (glB sc x && okN x) = true) :
    DS M X W (.Try body [.ExceptHandler (some (.Name x np)) none (b₀ :: suite) pos'] [] [] pos) ρ nx R := by
  rw [Bool.and_eq_true] at hg
  refine ds_of (L2.ps_try_only (X := X) (Wout := fun _ _ _ _ => False) (tb := fun W' D σ H => ∀ pn xe, L2.Takes (X.tr pn xe) W' → PassesOwn (model X.prog X.w) X.A X.env xe → semB (X.tr pn xe) body D σ H)
    (ts := fun a cls d D σ H => ∀ oe pn, semB (X.suite a ((a, oe) :: pn)) (b₀ :: suite) D σ H)
    tr.1 tr.2 ⟨c.gl hg.1, okN1 hg.2, .inl (by rw [c.eg]; exact hT)⟩ (fun _ _ x => by obtain ⟨_, _, _, _, _, _, _, _, _, _, _, _, _, _, _, _, z⟩ := x; exact z.elim)
    (fun W' pn xe tk po => ⟨fun pins s σ H D I h => h pn xe tk po pins s I⟩) (fun a oe cls d pn hz hf => ⟨fun pins s σ H D I h => h oe pn pins s I⟩)) fun B F σ H I E f => ?_
  intro pn xe tk po
  have cn : Cn M k N sc (X.tr pn xe) (L2.wOnly X.K (.ref T) (fun a cls d D σ H => ∀ oe pn, semB (X.suite a ((a, oe) :: pn)) (b₀ :: suite) D σ H) (fun _ _ _ _ => False) E) :=
    { eP := c.eP, ew := c.ew, eK := c.eK, eg := c.eg, eb := c.eb, hN := c.hN, nd := c.nd, hs := c.hs, kind := c.kind, loc := c.loc, un := c.un, calm := c.calm, room := c.room, tk := takes_n tk, po := po }
  refine hb _ _ cn B F σ H I E ⟨f.nx, f.rt, fun C ρ' σ' H' B' hm s' I' => ?_, f.bk, f.ct⟩
  obtain ⟨e1, h1⟩ := hsu C ρ' hm
  refine ⟨true, by rw [c.eK]; exact e1, fun _ a na oe pn => ?_, fun z => by cases z⟩
  have cv : Cv M N sc (X.suite a ((a, oe) :: pn)) := { eP := c.eP, ew := c.ew, eK := c.eK, eg := c.eg, eb := c.eb, hN := c.hN, nd := c.nd, hs := c.hs, kind := c.kind, loc := c.loc, un := c.un }
  exact h1 _ cv B' F σ' H' I' E ⟨fun r σ2 H2 B2 q t I2 => f.nx r σ2 H2 B2 q (s'.trans t) I2, fun d r x σ2 H2 B2 q t I2 p => f.rt d r x σ2 H2 B2 q (s'.trans t) I2 p, fun C r σ2 H2 B2 q => q.elim, fun r σ2 H2 B2 q t I2 => f.bk r σ2 H2 B2 q (s'.trans t) I2, fun r σ2 H2 B2 q t I2 => f.ct r σ2 H2 B2 q (s'.trans t) I2⟩
/-- an expression that is told in any context -/
structure SV (M : Md) (N : List Str) (sc : Sco) (e : Expr) (r : RE) : Prop where
  ok : ∀ X, Cv M N sc X → ∀ ρ d, r ρ = some (.ret d) → DE M X e ρ d
theorem sv_var (hi : Get i x N) (hv : (visB sc x && okN x) = true := by decide +kernel) : SV M N sc (.Name x pos) (rVar i) := ⟨fun X c ρ d h => dv c hi (gS_get (map_ret h)) hv⟩
theorem sv_k {d : PyData} (h : ∀ X ρ, DE M X e ρ d) : SV M N sc e (rK d) := ⟨fun X c ρ d' e => by cases e; exact h X ρ⟩
theorem sv_non {j} : SV M N sc (.Constant .none j pos) (rK .none) := sv_k fun _ _ => de_non
theorem sv_bl {n : Bool} {j} : SV M N sc (.Constant (.bool n) j pos) (rK (.bool n)) := sv_k fun _ _ => de_bl
def sTryR (cat : Nat → Bool) (s : RS) (e : RE) : RS := fun ρ => match s ρ with
  | some (.ex c ρ') => if cat c = true then vE (e ρ') fun d => some (.rt d ρ') else none
  | r => r
theorem ss_tryR {T : Addr} {np pos' q3 : Pos} {cat : Nat → Bool} (hT : M.mg x = some (.ref T)) (hc : ∀ c, cat c = true → PySem.W.exmOne M.K (.ref (xa c)) (.ref T) = some true) (hb : SB M k N xa sc false body s) (he : SV M N sc e re) (hg : (glB sc x && okN x) = true := by decide +kernel) :
    SS M k N xa sc true (.Try body [.ExceptHandler (some (.Name x np)) none [.Return (some e) q3] pos'] [] [] pos) (sTryR cat s re) := ⟨fun X W c t ρ r hh => by
  unfold sTryR at hh
  cases e1 : s ρ with
  | none => rw [e1] at hh; cases hh
  | some r1 =>
    rw [e1] at hh
    refine ds_tryOnly c (t rfl) hT (fun C ρ' => ∃ c1, C = xa c1 ∧ r1 = .ex c1 ρ') (fun X' W' c' => ?_) (fun C ρ' hm => ?_) hg
    · refine db_weak (hb.ok X' W' c' (fun z => by cases z) ρ r1 e1) ?_ ?_ ?_ ?_ ?_
      · rintro ρ2 rfl; cases hh; rfl
      · intro d2 ρ2 z; cases (show r1 = .rt d2 ρ2 from z); cases hh; rfl
      · rintro C ρ2 ⟨c2, rfl, z⟩; exact ⟨c2, rfl, z⟩
      · intro ρ2 z; cases (show r1 = .bk ρ2 from z); cases hh; rfl
      · intro ρ2 z; cases (show r1 = .ct ρ2 from z); cases hh; rfl
    · obtain ⟨c1, rfl, rfl⟩ := hm
      dsimp only at hh
      split at hh
      · rename_i hc1
        obtain ⟨d, h2, hh⟩ := vE_inv hh
        cases hh
        exact ⟨hc c1 hc1, fun X' cv => db_cons (ds_ret (he.ok X' cv ρ' d h2) rfl)⟩
      · cases hh⟩
def tryRK (cat : Nat → Bool) (e : RE) (o : Option Res) : Option Res := match o with
  | some (.ex c ρ') => if cat c = true then vE (e ρ') fun d => some (.rt d ρ') else none
  | r => r
theorem e_tryR {cat : Nat → Bool} {s : RS} {e : RE} {ρ : List Sl} : sTryR cat s e ρ = tryRK cat e (s ρ) := rfl
theorem tryRK_rt {cat : Nat → Bool} {e : RE} {d : PyData} {ρ : List Sl} : tryRK cat e (some (.rt d ρ)) = some (.rt d ρ) := rfl
theorem tryRK_nx {cat : Nat → Bool} {e : RE} {ρ : List Sl} : tryRK cat e (some (.nx ρ)) = some (.nx ρ) := rfl
theorem tryRK_ex {cat : Nat → Bool} {e : RE} {c : Nat} {ρ : List Sl} (h : cat c = true) : tryRK cat e (some (.ex c ρ)) = vE (e ρ) fun d => some (.rt d ρ) := if_pos h
end
end Rl

namespace Rl
open PySem PySem.Spec PyProof.Rows L2 Dl
mutual
theorem reads_alive {h : Heap} : ∀ {v : Value} {d : PyData} {as : List Addr}, Reads h v d as → ∀ a ∈ as, ∃ o, h.get? a = some o
  | _, _, _, .none, a, ha => by cases ha
  | _, _, _, .bool _, a, ha => by cases ha
  | _, _, _, .int _ _, a, ha => by cases ha
  | _, _, _, .str _ _, a, ha => by cases ha
  | _, _, _, .list h1 _ _ h4, a, ha => by
    rcases List.mem_cons.mp ha with z | z
    · rw [z]; exact ⟨_, h1⟩
    · exact readsAll_alive h4 a z
  | _, _, _, .tuple _ _ _ h4, a, ha => readsAll_alive h4 a ha
  | _, _, _, .dict h1 _ _ h4 h5, a, ha => by
    rcases List.mem_append.mp ha with z | z
    · rcases List.mem_cons.mp z with z | z
      · rw [z]; exact ⟨_, h1⟩
      · exact readsAll_alive h4 a z
    · exact readsAll_alive h5 a z
theorem readsAll_alive {h : Heap} : ∀ {vs : List Value} {ds : List PyData} {as : List Addr}, ReadsAll h vs ds as → ∀ a ∈ as, ∃ o, h.get? a = some o
  | _, _, _, .nil, a, ha => by cases ha
  | _, _, _, .cons h1 h2, a, ha => by
    rcases List.mem_append.mp ha with z | z
    · exact reads_alive h1 a z
    · exact readsAll_alive h2 a z
end
section
open PySem.W
variable {β : Type} {prog : Program} {w : World} {A : Around} {E : Value → Shared → Prop} {s : Shared} {R : Value → β → Prop} {enc : β → PyData}
/-- sorted of what is collected, some order of things that read as data -/
theorem sorted_col {v : Value} (O : List β → Prop) {bs : List β} {Q : Value → Shared → Prop} (hal : AllAlike (bs.map enc)) (hk : Sortable (bs.map enc)) (hL : bs.length ≤ sizeLine) (hu : ∀ b, b ∈ bs → A.units + 10 + (enc b).depth < cLine)
    (hcol : ∀ Q' : List Value → Shared → Prop, (∀ s1 vs bs', (∀ b o, s.heap.get? b = some o → s1.heap.get? b = some o) → s1.gens = s.gens → s1.os = s.os → bs'.Perm bs → O bs' → EachIs R vs bs' → EachIs (fun v b => ∃ as, Reads s1.heap v (enc b) as) vs bs' → Q' vs s1) → wpAny (model prog w) A.in1 (collect v) Q' E s)
    (hQ : ∀ (s' : Shared) (p : Addr) (out : List Value) (c : Nat) (bs' : List β), (∀ b o, s.heap.get? b = some o → s'.heap.get? b = some o) → s'.gens = s.gens → s'.os = s.os → (∃ h1 : Heap, (∀ b o, s.heap.get? b = some o → h1.get? b = some o) ∧ h1.objs.size ≤ p) → s'.heap.get? p = some (seqObj "list" out.toArray c) → bs'.Perm bs → O bs' → EachIs R out (bs'.mergeSort (dataLe false enc)) → Q (.ref p) s') :
    wpAny (model prog w) A (call (.builtin "sorted") [v]) Q E s := by
  refine Calls.call_function_entry kind_sorted plain_sorted entry_sorted (args_sorted1 _) ?_
  unfold Builtin.«sorted»
  refine wpAny_bind (m := checkCount "sorted" 1 1 _) (wpAny_pure ?_)
  refine wpAny_bind (hcol _ fun s1 vs bs' k1 g1 o1 pm ho e er => ?_)
  have hvl : vs.length = bs.length := by rw [e.length, pm.length_eq]
  have hal' : AllAlike (bs'.map enc) := fun d hd d' hd' => hal d ((pm.map enc).mem_iff.mp hd) d' ((pm.map enc).mem_iff.mp hd')
  have hk' : Sortable (bs'.map enc) := hk.imp (fun z d hd => z d ((pm.map enc).mem_iff.mp hd)) (fun z d hd => z d ((pm.map enc).mem_iff.mp hd))
  refine wpAny_bind (wpAny_newList ?_ (by rw [hvl]; exact hL))
  have hoL : (s1.heap.push (seqObj "list" vs.toArray 0)).get? s1.heap.objs.size = some (seqObj "list" vs.toArray 0) := Heap.get?_push_size _ rfl
  have hin : ∀ {v : Value} {d : PyData} {as : List Addr}, Reads s1.heap v d as → s1.heap.objs.size ∉ as := fun {v d as} r hm => by
    obtain ⟨o, ho⟩ := reads_alive r _ hm
    exact absurd (Heap.lt_size ho) (Nat.lt_irrefl _)
  have er2 : EachIs (fun v b => ∃ as, Reads (s1.heap.push (seqObj "list" vs.toArray 0)) v (enc b) as ∧ s1.heap.objs.size ∉ as) vs bs' := er.mono fun _ _ ⟨as, r⟩ => ⟨as, PyProof.Rows.Reads.keeps (fun _ _ q => Heap.get?_push_of_some _ q) r, hin r⟩
  refine wpAny_bind (wpAny_holding (list_sort_data (A := A.in1) (n := 0) hoL e er2 hal' hk' (by rw [pm.length_eq]; exact hL) (fun b hb => ?_) fun out ol eo => ?_))
  · have h1 := hu b (pm.mem_iff.mp hb)
    have h2 : A.in1.units = A.units + 1 := rfl
    omega
  · obtain ⟨c, hc⟩ := sortedHeap_at (vs := vs) (out := out.toArray) hoL
    refine wpAny_pure ⟨_, rfl, hQ _ s1.heap.objs.size out c bs' (fun b u eb => ?_) g1 o1 ⟨s1.heap, k1, Nat.le_refl _⟩ hc pm ho eo⟩
    have q := k1 b u eb
    have hlt := Heap.lt_size q
    show (sortedHeap (s1.heap.push (seqObj "list" vs.toArray 0)) s1.heap.objs.size vs out.toArray).get? b = some u
    rw [sortedHeap_old (Nat.ne_of_lt hlt) (by rw [size_push']; exact Nat.lt_succ_of_lt hlt)]
    exact Heap.get?_push_of_some _ q
end
section
open PySem.W
theorem each_vals : ∀ {xs : List V} {us : List Value} {ds : List PyData}, Vals xs us → xs.length = ds.length → EachIs (fun u (b : V × PyData) => RelV b.1 u) us (xs.zip ds)
  | [], [], [], _, _ => .nil
  | [], _, _ :: _, _, h => by cases h
  | _ :: _, _, [], _, h => by cases h
  | x :: xs, u :: us, d :: ds, .cons r t, h => .cons r (each_vals t (by simpa using h))
theorem each_reads {X : Cx} {pins : List (Addr × Obj)} {σ : L2.St} {H : Hp} {s : Shared} (I : Inv X pins σ H s) : ∀ {xs : List V} {us : List Value} {ds : List PyData}, Vals xs us → L2.DpAll X.K H xs ds → EachIs (fun u (b : V × PyData) => ∃ as, Reads s.heap u b.2 as) us (xs.zip ds)
  | [], [], [], _, _ => .nil
  | x :: xs, u :: us, d :: ds, .cons r t, .cons p q => .cons (L2.Dp.reads I d x u p r) (each_reads I t q)
theorem vals_each : ∀ {out : List Value} {bs : List (V × PyData)}, EachIs (fun u (b : V × PyData) => RelV b.1 u) out bs → Vals (bs.map (·.1)) out
  | [], [], .nil => .nil
  | _ :: _, _ :: _, .cons r t => .cons r (vals_each t)
theorem zip_snd : ∀ {xs : List V} {ds : List PyData}, xs.length = ds.length → (xs.zip ds).map (·.2) = ds
  | [], [], _ => rfl
  | [], _ :: _, h => by cases h
  | _ :: _, [], h => by cases h
  | x :: xs, d :: ds, h => by show d :: (xs.zip ds).map _ = _; rw [zip_snd (by simpa using h)]
theorem dpAll_len {K : PySem.W.Frag} {H : Hp} : ∀ {xs : List V} {ds : List PyData}, L2.DpAll K H xs ds → xs.length = ds.length
  | _, _, .nil => rfl
  | _, _, .cons _ t => by rw [List.length_cons, List.length_cons, dpAll_len t]
theorem un_laid {fs ex : List Addr} {H : Hp} {h h' : Heap} {a : Addr} {o : HO} (k : ∀ b u, h.get? b = some u → h'.get? b = some u) (hp : h.get? a = none) (hn : H a = none) : Un fs ex H (upd H a o) h h' :=
  have ne {b : Addr} {u : Obj} (q : h.get? b = some u) : b ≠ a := fun e => by rw [e, hp] at q; cases q
  { keep := fun b u q _ _ _ => k b u q
    slot := fun b u q _ _ _ => ⟨u.slots, k b u q⟩
    free := fun b u q n _ => (upd_ne (ne q)).trans n
    there := fun b u q _ => ⟨u, k b u q⟩
    tups := fun b xs q => (upd_ne (ne_of_none q hn)).trans q
    frzs := fun b u xs q => (upd_ne (ne_of_none q hn)).trans q
    tbls := fun b ps q => ⟨#[], (upd_ne (ne_of_none q hn)).trans (by rw [q]; simp)⟩ }
theorem hok_laid {P : Program} {w : World} {H : Hp} {h h' : Heap} {a : Addr} {o : HO} (x : HOk P w H h) (k : ∀ b u, h.get? b = some u → h'.get? b = some u) (hn : H a = none) (new : ObjOk P w (upd H a o) h' a o) : HOk P w (upd H a o) h' := fun b u e => by
  rcases Decidable.em (b = a) with hb | hb
  · cases hb
    cases upd_same.symm.trans e
    exact new
  · exact (x b u ((upd_ne hb).symm.trans e)).stay (fun c v _ q => k c v q) (fun c q => (upd_ne (ne_of_none q hn)).trans q) fun c xs q => (upd_ne (ne_of_none q hn)).trans q
def rSortQ (K : PySem.W.Frag) : List V → Hp → VK → Prop := fun vs H Q => ∃ (a : Addr) (xs : List V) (ds : List PyData), vs = [.ref a] ∧ (SqL K H a xs ∨ SqT K H a xs) ∧ L2.DpAll K H xs ds ∧ AllAlike ds ∧ Sortable ds ∧ (∀ d ∈ ds, PyData.depth d ≤ 64) ∧
  ∀ p, H p = none → Q (.ref p) (upd H p (.lst (((xs.zip ds).mergeSort (dataLe false Prod.snd)).map (·.1))))
theorem cr_sortQ {X : Cx} (hun : X.A.units + 200 < cLine) : CallR X (.builtin "sorted") (rSortQ X.K) := by
  intro pins s σ H vs us Q I r h
  obtain ⟨a, xs, ds, rfl, hs, hd, hal, hk, hdep, q⟩ := h
  rw [Vals.ref1 r]
  have hlen := dpAll_len hd
  have hz := zip_snd hlen
  have hob : ∃ (its : List Value) (o : Obj) (T : String) (n : Nat), Vals xs its ∧ (T = "list" ∨ T = "tuple") ∧ s.heap.get? a = some o ∧ o.cls = .type T ∧ o.data = .seq its.toArray n ∧ xs.length ≤ sizeLine := by
    rcases hs with hs | hs
    · obtain ⟨its, rv, pl, hl⟩ := I.list hs
      obtain ⟨o, ho, hc, n, hd⟩ := pl.isList
      exact ⟨its, o, "list", n, rv, .inl rfl, ho, hc, hd, hl⟩
    · obtain ⟨its, rv, ⟨o, ho, hc, n, hd⟩, hl⟩ := I.tuple hs
      exact ⟨its, o, "tuple", n, rv, .inr rfl, ho, hc, hd, hl⟩
  obtain ⟨its, o, T, n, rv, hT, ho, hc, hdt, hl⟩ := hob
  have hzl : (xs.zip ds).length = xs.length := by rw [List.length_zip, hlen, Nat.min_self]
  refine sorted_col (fun bs' => bs' = xs.zip ds) (R := fun u (b : V × PyData) => RelV b.1 u) (enc := Prod.snd) (bs := xs.zip ds) (by rw [hz]; exact hal) (by rw [hz]; exact hk) (by rw [hzl]; exact hl)
    (fun b hb => by have := hdep b.2 (by rw [← hz]; exact List.mem_map.mpr ⟨b, hb, rfl⟩); omega) (fun Q' hq => ?_) (fun s' p out c bs' k g o1 hp hg pm ez eo => ?_)
  · refine wpAny_collect_seq a hT ho hc hdt (fun h' k => ?_) (by rw [List.size_toArray, ← rv.length]; exact hl)
    rw [List.toList_toArray]
    have J : EachIs (fun v (b : V × PyData) => ∃ as, Reads h' v b.2 as) its (xs.zip ds) := (each_reads I rv hd).mono fun _ _ ⟨as, r⟩ => ⟨as, PyProof.Rows.Reads.keeps k r⟩
    exact hq _ its (xs.zip ds) k rfl rfl (List.Perm.refl _) rfl (each_vals rv hlen) J
  · subst ez
    obtain ⟨h1, k1, hp1⟩ := hp
    have hn : H p = none := (I.hok.kept k1).fresh hp1
    have hq : s.heap.get? p = none := by
      cases e : s.heap.get? p with
      | none => rfl
      | some u => exact absurd (Nat.lt_of_lt_of_le (Heap.lt_size (k1 p u e)) hp1) (Nat.lt_irrefl _)
    have hol : (((xs.zip ds).mergeSort (dataLe false Prod.snd)).map (·.1)).length ≤ sizeLine := by rw [List.length_map, List.length_mergeSort, hzl]; exact hl
    have J : Inv X pins σ (upd H p (.lst (((xs.zip ds).mergeSort (dataLe false Prod.snd)).map (·.1)))) { s with heap := s'.heap, gens := s'.gens, drawn := s'.drawn, toks := s'.toks } :=
      I.call (ch := []) (un_laid k hq hn) (hok_laid I.hok k hn ⟨hol, out, c, vals_each eo, hg⟩) (by rw [g]; exact I.bare) (fun _ z => nomatch z)
    have e : s' = { s with heap := s'.heap, gens := s'.gens, drawn := s'.drawn, toks := s'.toks } := by
      cases s'
      cases s
      cases o1
      rfl
    rw [e]
    exact ⟨.ref p, _, J, rfl, q p hn⟩
/-- the sorted data -/
def sortD (ds : List PyData) : List PyData := ds.mergeSort (dataLe false id)
theorem dqa_pick {K : PySem.W.Frag} {B : Hp} : ∀ {bs : List (V × PyData)}, (∀ b ∈ bs, Dq K B b.1 b.2) → DqAll K B (bs.map (·.1)) (bs.map (·.2))
  | [], _ => .nil
  | b :: bs, h => .cons (h b (List.mem_cons_self ..)) (dqa_pick fun c hc => h c (List.mem_cons_of_mem _ hc))
theorem dqa_zip {K : PySem.W.Frag} {B : Hp} : ∀ {vs : List V} {ds : List PyData}, DqAll K B vs ds → ∀ b ∈ vs.zip ds, Dq K B b.1 b.2
  | _, _, .nil, b, hb => by cases hb
  | _, _, .cons p t, b, hb => by
    rcases List.mem_cons.mp hb with z | z
    · rw [z]; exact p
    · exact dqa_zip t b z
theorem dqa_sort {K : PySem.W.Frag} {B : Hp} {vs : List V} {ds : List PyData} (h : DqAll K B vs ds) : DqAll K B (((vs.zip ds).mergeSort (dataLe false Prod.snd)).map (·.1)) (sortD ds) := by
  have e : sortD ds = ((vs.zip ds).mergeSort (dataLe false Prod.snd)).map (·.2) := by
    unfold sortD
    rw [List.map_mergeSort (r := dataLe false Prod.snd) (s := dataLe false id) (f := fun x : V × PyData => x.2) (fun a _ b _ => rfl), zip_snd (dpa_len h)]
  rw [e]
  exact dqa_pick fun b hb => dqa_zip h b ((List.mergeSort_perm _ _).mem_iff.mp hb)
def tupNe : PyData → Bool
  | .tuple (_ :: _) => true
  | _ => false
def notTN : PyData → Bool
  | .tuple _ => false
  | .none => false
  | _ => true
def okSort (ds : List PyData) : Bool := (ds.all fun a => ds.all fun b => alike a b) && (ds.all tupNe || ds.all notTN) && (ds.all fun d => decide (PyData.depth d ≤ 64)) && PyData.canLayAll0 ds
theorem okSort_alike {ds : List PyData} (h : okSort ds = true) : AllAlike ds := by
  unfold okSort at h
  simp only [Bool.and_eq_true] at h
  intro d hd d' hd'
  exact List.all_eq_true.mp (List.all_eq_true.mp h.1.1.1 d hd) d' hd'
theorem okSort_able {ds : List PyData} (h : okSort ds = true) : Sortable ds := by
  unfold okSort at h
  simp only [Bool.and_eq_true, Bool.or_eq_true] at h
  rcases h.1.1.2 with z | z
  · refine .inl fun d hd => ?_
    have := List.all_eq_true.mp z d hd
    unfold tupNe at this
    split at this
    · exact ⟨_, _, rfl⟩
    · cases this
  · refine .inr fun d hd => ?_
    have := List.all_eq_true.mp z d hd
    refine ⟨fun e => ?_, fun xs e => ?_⟩
    · rw [e] at this; cases this
    · rw [e] at this; cases this
theorem okSort_depth {ds : List PyData} (h : okSort ds = true) : ∀ d ∈ ds, PyData.depth d ≤ 64 := by
  unfold okSort at h
  simp only [Bool.and_eq_true] at h
  exact fun d hd => of_decide_eq_true (List.all_eq_true.mp h.1.2 d hd)
theorem okSort_lay {ds : List PyData} (h : okSort ds = true) : PyData.canLayAll0 ds = true := by
  unfold okSort at h
  simp only [Bool.and_eq_true] at h
  exact h.2
variable {M : Md} {N : List Str} {sc : Sco} {X : Cx} {k : Nat}
theorem cl_sort_lst {ds : List PyData} (c : Cv M N sc X) (h : okSort ds = true) : Cl M X (.builtin "sorted") [.list ds] (.list (sortD ds)) := ⟨_, cr_sortQ c.un, fun B F σ H ρ vs I p Q q => by
  obtain ⟨v, rfl, p1⟩ := inv_all1 p
  cases p1 with
  | lst s al => exact ⟨_, _, ds, rfl, .inl (SqL.of (I.bh _ _ s)), by rw [c.eK]; exact dqa_dp (dpa_mono I.bh al) (okSort_lay h), okSort_alike h, okSort_able h, okSort_depth h, fun a ha => by
      obtain ⟨s2, I2⟩ := I.new (o := .lst _) ha
      exact q _ _ _ s2 I2 (.lst upd_same (dpa_mono s2 (dqa_sort al)))⟩⟩
theorem cl_sort_tup {ds : List PyData} (c : Cv M N sc X) (h : okSort ds = true) : Cl M X (.builtin "sorted") [.tuple ds] (.list (sortD ds)) := ⟨_, cr_sortQ c.un, fun B F σ H ρ vs I p Q q => by
  obtain ⟨v, rfl, p1⟩ := inv_all1 p
  cases p1 with
  | tup s al => exact ⟨_, _, ds, rfl, .inr (by rw [c.eK]; exact Evl.ex_t I.bh s), by rw [c.eK]; exact dqa_dp (dpa_mono I.bh al) (okSort_lay h), okSort_alike h, okSort_able h, okSort_depth h, fun a ha => by
      obtain ⟨s2, I2⟩ := I.new (o := .lst _) ha
      exact q _ _ _ s2 I2 (.lst upd_same (dpa_mono s2 (dqa_sort al)))⟩⟩
def fSorted : List PyData → Option PyData
  | [.list ds] => if okSort ds = true then some (.list (sortD ds)) else none
  | [.tuple ds] => if okSort ds = true then some (.list (sortD ds)) else none
  | _ => none
theorem ok_sorted : OkCl M k N (.builtin "sorted") fSorted := fun sc X W c ds d h => by
  unfold fSorted at h
  split at h
  · split at h
    · cases h; exact cl_sort_lst c.toCv (by assumption)
    · cases h
  · split at h
    · cases h; exact cl_sort_tup c.toCv (by assumption)
    · cases h
  · cases h
end
end Rl

/-! Slices with a step, of tuples. -/
namespace Rl
open PySem PySem.Spec PyProof.Rows L2 Dl
def stA (lo hi : Option Int) (st : Int) (n : Nat) : Int := (Builtin.Slice.sliceAdjust lo hi st (n : Int)).1
def stN (lo hi : Option Int) (st : Int) (n : Nat) : Nat := Builtin.Slice.slicePlaces (Builtin.Slice.sliceAdjust lo hi st (n : Int)).1 (Builtin.Slice.sliceAdjust lo hi st (n : Int)).2 st
def stW (lo hi : Option Int) (st : Int) (n : Nat) : Bool := stA lo hi st n == 0 && st == 1 && stN lo hi st n == n
def stIx (lo hi : Option Int) (st : Int) (n : Nat) : List Nat := (List.range (stN lo hi st n)).map fun (k : Nat) => (stA lo hi st n + (k : Int) * st).toNat
def pickAt {α : Type} (xs : List α) (is : List Nat) : List α := is.filterMap (xs[·]?)
/-- the items of xs[lo:hi:st] -/
def stepPick {α : Type} (xs : List α) (lo hi : Option Int) (st : Int) : List α := if stW lo hi st xs.length = true then xs else pickAt xs (stIx lo hi st xs.length)
theorem pick_len {α : Type} (xs : List α) (is : List Nat) : (pickAt xs is).length ≤ is.length := List.length_filterMap_le ..
theorem pick_vals {xs : List V} {us : List Value} (h : Vals xs us) : ∀ is, Vals (pickAt xs is) (pickAt us is)
  | [] => .nil
  | i :: is => by
    have hl := h.length
    unfold pickAt
    by_cases hi : i < xs.length
    · have e1 : xs[i]? = some xs[i] := List.getElem?_eq_getElem hi
      have e2 : us[i]? = some us[i] := List.getElem?_eq_getElem (by omega)
      rw [List.filterMap_cons_some e1, List.filterMap_cons_some e2]
      obtain ⟨u, q1, q2⟩ := h.get e1
      rw [e2] at q1
      cases q1
      exact .cons q2 (pick_vals h is)
    · have e1 : xs[i]? = none := List.getElem?_eq_none (by omega)
      have e2 : us[i]? = none := List.getElem?_eq_none (by omega)
      rw [List.filterMap_cons_none e1, List.filterMap_cons_none e2]
      exact pick_vals h is
theorem pick_dq {K : PySem.W.Frag} {B : Hp} {xs : List V} {ds : List PyData} (h : DqAll K B xs ds) : ∀ is, DqAll K B (pickAt xs is) (pickAt ds is)
  | [] => .nil
  | i :: is => by
    have hl := dpa_len h
    unfold pickAt
    by_cases hi : i < xs.length
    · have e1 : xs[i]? = some xs[i] := List.getElem?_eq_getElem hi
      have e2 : ds[i]? = some ds[i] := List.getElem?_eq_getElem (by omega)
      rw [List.filterMap_cons_some e1, List.filterMap_cons_some e2]
      obtain ⟨u, q1, q2⟩ := dpa_get h i _ e1
      rw [e2] at q1
      cases q1
      exact .cons q2 (pick_dq h is)
    · have e1 : xs[i]? = none := List.getElem?_eq_none (by omega)
      have e2 : ds[i]? = none := List.getElem?_eq_none (by omega)
      rw [List.filterMap_cons_none e1, List.filterMap_cons_none e2]
      exact pick_dq h is
section
open HT
variable {prog : Program} {w : World} {A : Around} {E : Value → Shared → Prop} {s : Shared}
theorem applied_step {sl : Addr} {vl vu vs : Value} {lo hi : Option Int} {st : Int} {n : Nat} {Q : Int × Int × Nat → Shared → Prop} (hs : s.heap.IsSliceOf sl vl vu vs) (pl : IsPart vl lo) (pu : IsPart vu hi) (ps : IsPart vs (some st)) (h0 : st ≠ 0)
    (h : Q (stA lo hi st n, st, stN lo hi st n) s) : wpAny (model prog w) A (Builtin.Slice.sliceApplied (.ref sl) (pure (n : Int))) Q E s := by
  obtain ⟨os, hos, hcs, hds⟩ := id hs
  unfold Builtin.Slice.sliceApplied Builtin.Slice.sliceFields
  refine wpAny_bind (wpAny_bind (wpAny_field hos hds (x := vl) rfl (wpAny_bind (wpAny_field hos hds (x := vu) rfl (wpAny_bind (wpAny_field hos hds (x := vs) rfl (wpAny_pure ?_)))))))
  refine wpAny_bind (slicePart_ ps ?_)
  show wpAny _ _ (if (st == 0) = true then _ else _) _ _ s
  rw [if_neg (fun e => h0 (eq_of_beq e))]
  refine wpAny_bind (slicePart_ pl (wpAny_bind (slicePart_ pu (wpAny_bind (wpAny_pure ?_)))))
  exact wpAny_pure h
theorem getItem_step {t sl : Addr} {items : List Value} {vl vu vs : Value} {lo hi : Option Int} {st : Int} {Q : Value → Shared → Prop} (ht : IsTup s.heap t items.toArray) (hs : s.heap.IsSliceOf sl vl vu vs) (pl : IsPart vl lo) (pu : IsPart vu hi) (ps : IsPart vs (some st)) (h0 : st ≠ 0)
    (hsz : items.length ≤ sizeLine) (hn : stN lo hi st items.length ≤ items.length) (h1 : stW lo hi st items.length = true → Q (.ref t) s)
    (h2 : stW lo hi st items.length = false → Q (.ref s.heap.objs.size) { s with heap := s.heap.push { cls := .type "tuple", data := .seq (pickAt items (stIx lo hi st items.length)).toArray } }) : wpAny (model prog w) A (getItem (.ref t) (.ref sl)) Q E s := by
  have htake : sizeOk (.seq (pickAt items (stIx lo hi st items.length)).toArray) := by
    show (pickAt items (stIx lo hi st items.length)).toArray.size ≤ sizeLine
    rw [List.size_toArray]
    have q := pick_len items (stIx lo hi st items.length)
    unfold stIx at q
    rw [List.length_map, List.length_range] at q
    unfold stIx
    omega
  obtain ⟨os, hos, hcs, hds⟩ := id hs
  have hTs : s.TypeIs (.ref sl) "slice" := ⟨os, hos, hcs⟩
  unfold getItem
  try with_reducible refine wpAny_holding ?_
  first | refine wpAny_bind (wpAny_pure ?_) | skip
  refine wpAny_bind (wpAny_sequenceKey ht.typeIs (by decide) ?_)
  refine wpAny_bind (wpAny_callSpecial?_slot (name := Str.ofString "__getitem__") ht.typeIs PyProof.Rows.slot_tuple_getitem
    (wpAny_call_entry PyProof.Rows.slot_tuple_getitem ht.typeIs entry_tuple_getitem ?_ (args_tuple_getitem _ _)))
  show wpAny _ _ (Builtin.Tuple.tupleItemsOf (.ref t) >>= _) _ _ s
  refine wpAny_bind (tupleItemsOf_ ht ?_)
  refine wpAny_bind (wpAny_typeOf hTs ?_)
  rw [if_pos (by decide)]
  have esz : items.toArray.size = items.length := List.size_toArray
  rw [esz]
  refine wpAny_bind (applied_step hs pl pu ps h0 ?_)
  have ep : ((List.range (stN lo hi st items.length)).filterMap fun (k : Nat) => items.toArray[(stA lo hi st items.length + (k : Int) * st).toNat]?).toArray = (pickAt items (stIx lo hi st items.length)).toArray := by
    unfold pickAt stIx
    rw [List.filterMap_map]
    congr 1
    congr 1
    funext k
    simp
  show wpAny _ _ (if stW lo hi st items.length = true then _ else _) _ _ s
  cases hw : stW lo hi st items.length with
  | true =>
    rw [if_pos rfl]
    refine wpAny_bind ?_
    show wpAny _ _ (typeOf (.ref t) >>= fun T => pure (T == .type "tuple")) _ _ s
    refine wpAny_bind (wpAny_typeOf ht.typeIs (wpAny_pure ?_))
    have h := h1 hw
    first
      | rw [if_pos (by decide)]
      | simp only [beq_self_eq_true, if_true]
    first
      | exact wpAny_bind (wpAny_rule (wpAny_pure ⟨_, rfl, wpAny_pure h⟩))
      | exact wpAny_bind (wpAny_rule (wpAny_bind (wpAny_pure (wpAny_pure ⟨_, rfl, wpAny_pure h⟩))))
  | false =>
    rw [if_neg Bool.false_ne_true, ep]
    have h := h2 hw
    first
      | exact wpAny_bind (m := Builtin.Tuple.tupleExact _) (wpAny_newObj_type (wpAny_pure ⟨_, rfl, wpAny_pure h⟩) htake)
      | exact wpAny_bind (m := Builtin.Tuple.tupleExact _) (wpAny_newObj_type (wpAny_bind (wpAny_pure (wpAny_pure ⟨_, rfl, wpAny_pure h⟩))) htake)
      | exact wpAny_bind (wpAny_bind (m := Builtin.Tuple.tupleExact _) (wpAny_newObj_type (wpAny_pure (wpAny_pure ⟨_, rfl, wpAny_pure h⟩)) htake))
      | exact wpAny_bind (wpAny_bind (m := Builtin.Tuple.tupleExact _) (wpAny_newObj_type (wpAny_pure ⟨_, rfl, wpAny_pure h⟩) htake))
end
section
variable {X : Cx}
def tStp (K : PySem.W.Frag) (te : TE) (tl th ts : TO) : TE := fun σ H Q => te σ H fun x H1 => tl σ H1 fun l H2 => th σ H2 fun u H3 => ts σ H3 fun o H4 => ∃ a xs st, x = .ref a ∧ o = some st ∧ st ≠ 0 ∧ SqT K H4 a xs ∧ stN l u st xs.length ≤ xs.length ∧
  (stW l u st xs.length = true → Q (.ref a) H4) ∧ (stW l u st xs.length = false → ∀ p, H4 p = none → Q (.ref p) (upd H4 p (.tup (pickAt xs (stIx l u st xs.length)))))
theorem pe_stp {e : Expr} {te : TE} {lo hi : Option Expr} {se : Expr} {tl th ts : TO} {p3 pos : Pos} (he : PE X e te) (hl : PO X lo tl) (hu : PO X hi th) (hst : PO X (some se) ts) : PE X (.Subscript e (.Slice lo hi (some se) p3) pos) (tStp X.K te tl th ts) := by
  refine ⟨fun pins s σ H Q I h => ?_⟩
  refine Subscript_ (thn (he.run pins s σ H _ I h) fun v s1 ⟨x, H1, I1, r1, q1⟩ => ?_)
  refine wpAny_Slice (thn (hl.run pins s1 σ H1 _ I1 q1) fun vl s2 ⟨l, H2, I2, pl, q2⟩ => thn (hu.run pins s2 σ H2 _ I2 q2) fun vu s3 ⟨u, H3, I3, pu, q3⟩ => thn (hst.run pins s3 σ H3 _ I3 q3) fun vs s4 ⟨o, H4, I4, ps, q4⟩ => ?_)
  obtain ⟨a, xs, st, ex, eo, h0, hx, hn, w1, w2⟩ := q4
  subst ex eo
  cases r1
  have I5 : Inv X pins σ H4 { s4 with heap := s4.heap.push { cls := .type "slice", data := .fields #[vl, vu, vs] } } := I4.kept (t' := s4.toks) fun b ob q => Heap.get?_push_of_some _ q
  obtain ⟨its, r, ht, hz⟩ := I5.tuple hx
  have hlen := r.length
  show wpAny (model X.prog X.w) X.A (subscriptTail e (.Slice lo hi (some se) p3) (.ref a) (.ref s4.heap.objs.size)) (EP X pins σ Q) X.xe { s4 with heap := s4.heap.push { cls := .type "slice", data := .fields #[vl, vu, vs] } }
  refine tail_any (ops := [.ref a, .ref s4.heap.objs.size]) ht.typeIs PyProof.Rows.slot_tuple_getitem.lookup ?_ (by with_unfolding_all rfl)
  refine getItem_step ht (Heap.IsSliceOf.new _ vl vu vs) pl pu ps h0 (by omega) (by rw [← hlen]; exact hn) (fun hw => ?_) (fun hw => ?_)
  · rw [← hlen] at hw
    exact ⟨.ref a, H4, I5, rfl, w1 hw⟩
  · rw [← hlen] at hw ⊢
    refine ⟨.ref _, _, I5.laid (t' := s4.toks) (o := .tup (pickAt xs (stIx l u st xs.length))) (fun b ob q => Heap.get?_push_of_some _ q) (Nat.le_refl _) ?_, rfl, w2 hw _ (I5.hok.fresh (Nat.le_refl _))⟩
    refine ⟨?_, _, pick_vals r _, IsTup.new _ _⟩
    have q := pick_len xs (stIx l u st xs.length)
    unfold stIx at q
    rw [List.length_map, List.length_range] at q
    unfold stIx
    omega
end
section
variable {M : Md} {N : List Str} {sc : Sco} {X : Cx} {k : Nat} {ρ : List Sl} {xa : Nat → Addr} {e se : Expr} {lo hi : Option Expr} {ra rs : RE} {ol oh : RO1} {p2 pos : Pos}
theorem de_stp {ds : List PyData} {l u : Option Int} {st : Int} (c : Cv M N sc X) (he : DE M X e ρ (.tuple ds)) (hl : DO M X lo ρ l) (hu : DO M X hi ρ u) (hs : DO M X (some se) ρ (some st)) (h0 : st ≠ 0) (hn : stN l u st ds.length ≤ ds.length) : DE M X (.Subscript e (.Slice lo hi (some se) p2) pos) ρ (.tuple (stepPick ds l u st)) := by
  obtain ⟨tl, pl, ql⟩ := hl
  obtain ⟨th, ph, qh⟩ := hu
  obtain ⟨ts, ps, qs⟩ := hs
  refine de_of (pe_stp pe_sem pl ph ps) fun B F σ H I Q q => he B F σ H I _ fun v1 H1 B1 s1 I1 p1 => ql B1 F σ H1 I1 _ fun H2 B2 s2 I2 => qh B2 F σ H2 I2 _ fun H3 B3 s3 I3 => qs B3 F σ H3 I3 _ fun H4 B4 s4 I4 => ?_
  have st' : Same B B4 := ((s1.trans s2).trans s3).trans s4
  have p4 := dp_mono ((s2.trans s3).trans s4) p1
  cases p4 with
  | tup sq al =>
    have hl := dpa_len al
    refine ⟨_, _, st, rfl, rfl, h0, by rw [c.eK]; exact Evl.ex_t I4.bh sq, by rw [hl]; exact hn, fun hw => ?_, fun hw p hp => ?_⟩
    · rw [hl] at hw
      unfold stepPick at q
      rw [if_pos hw] at q
      exact q _ _ _ st' I4 (.tup sq al)
    · obtain ⟨t1, I5⟩ := I4.new (o := .tup _) hp
      rw [hl] at hw
      unfold stepPick at q
      rw [hw, if_neg Bool.false_ne_true] at q
      refine q _ _ _ (st'.trans t1) I5 (.tup (.inl (.inl upd_same)) ?_)
      rw [← hl]
      exact dpa_mono t1 (pick_dq al _)
def stF (d : PyData) (lo hi : Option Int) (st : Int) : Option PyData := match d with
  | .tuple ds => if st ≠ 0 ∧ stN lo hi st ds.length ≤ ds.length then some (.tuple (stepPick ds lo hi st)) else none
  | _ => none
def rStp (a : RE) (lo hi : RO1) (st : RO1) : RE := fun ρ => vE (a ρ) fun d => match lo ρ with
  | some l => match hi ρ with
    | some h => match st ρ with
      | some (some n) => (stF d l h n).map .ret
      | _ => none
    | none => none
  | none => none
theorem se_stp {os : RO1} (ha : SE M k N xa sc e ra) (hl : SO M k N xa sc lo ol) (hh : SO M k N xa sc hi oh) (hs : SO M k N xa sc (some se) os) : SE M k N xa sc (.Subscript e (.Slice lo hi (some se) p2) pos) (rStp ra ol oh os) where
  ok X W c ρ d h := by
    obtain ⟨d1, h1, h⟩ := vE_inv h
    split at h
    · rename_i l ql
      split at h
      · rename_i u qu
        split at h
        · rename_i st qs
          have h := map_ret h
          unfold stF at h
          split at h
          · split at h
            · rename_i hq
              cases h
              exact de_stp c.toCv (ha.ok X W c ρ _ h1) (hl.ok X W c ρ l ql) (hh.ok X W c ρ u qu) (hs.ok X W c ρ _ qs) hq.1 hq.2
            · cases h
          · cases h
        · cases h
      · cases h
    · cases h
  ex X W c ρ c' h := by
    obtain ⟨d1, h1, h⟩ := vE_inv h
    split at h
    · split at h
      · split at h
        · exact (map_exc h).elim
        · cases h
      · cases h
    · cases h
end
end Rl

/-! Data looked for among the items of a tuple. -/
namespace Rl
open PySem PySem.Spec PyProof.Rows L2 Dl
section
variable {M : Md} {N : List Str} {sc : Sco} {X : Cx} {k : Nat} {d : PyData} {ds : List PyData}
def rInU (K : PySem.W.Frag) (no : Bool) : R2 := fun x y H Q => ∃ d ds, L2.Dp K H x d ∧ L2.Dp K H y (.tuple ds) ∧ SeqAt.shaped d = true ∧ SeqAt.shaped (.tuple ds) = true ∧ Q (.bl (xor no (ds.any fun z => PyData.eqv z d))) H
theorem op_inU (hu : X.A.units + 65 < cLine) : OpR X (compareOp .In) (rInU X.K false) := by
  intro pins s σ H x y v u Q I rx ry h
  obtain ⟨e, es, he, hes, se, ses, q⟩ := h
  obtain ⟨as, r1⟩ := L2.Dp.reads I e x v he rx
  obtain ⟨bs, r2⟩ := L2.Dp.reads I (.tuple es) y u hes ry
  rw [Bool.false_xor] at q
  exact SeqAt.in_tuple_reads r2 r1 (SeqAt.canLay_of_shaped ses) (SeqAt.canLay_of_shaped se) (room_in_shaped se hu) ⟨.bl _, _, I, rfl, q⟩
theorem op_niU (hu : X.A.units + 65 < cLine) : OpR X (compareOp .NotIn) (rInU X.K true) := by
  intro pins s σ H x y v u Q I rx ry h
  obtain ⟨e, es, he, hes, se, ses, q⟩ := h
  obtain ⟨as, r1⟩ := L2.Dp.reads I e x v he rx
  obtain ⟨bs, r2⟩ := L2.Dp.reads I (.tuple es) y u hes ry
  rw [Bool.true_xor] at q
  exact SeqAt.notIn_tuple_reads r2 r1 (SeqAt.canLay_of_shaped ses) (SeqAt.canLay_of_shaped se) (room_in_shaped se hu) ⟨.bl _, _, I, rfl, q⟩
theorem o_inU (c : Cv M N sc X) (h1 : SeqAt.shaped d = true) (h2 : SeqAt.shaped (.tuple ds) = true) : Op2 M X (compareOp .In) d (.tuple ds) (.bool (ds.any fun z => PyData.eqv z d)) :=
  ⟨_, op_inU (by have := c.un; omega), fun B F σ H ρ u1 u2 I p1 p2 Q q => by
    refine ⟨d, ds, by rw [c.eK]; exact dq_dp (dp_mono I.bh p1) (SeqAt.canLay_of_shaped h1), by rw [c.eK]; exact dq_dp (dp_mono I.bh p2) (SeqAt.canLay_of_shaped h2), h1, h2, ?_⟩
    rw [Bool.false_xor]
    exact q _ _ _ (Same.refl B) I (.bl _)⟩
theorem o_niU (c : Cv M N sc X) (h1 : SeqAt.shaped d = true) (h2 : SeqAt.shaped (.tuple ds) = true) : Op2 M X (compareOp .NotIn) d (.tuple ds) (.bool (!ds.any fun z => PyData.eqv z d)) :=
  ⟨_, op_niU (by have := c.un; omega), fun B F σ H ρ u1 u2 I p1 p2 Q q => by
    refine ⟨d, ds, by rw [c.eK]; exact dq_dp (dp_mono I.bh p1) (SeqAt.canLay_of_shaped h1), by rw [c.eK]; exact dq_dp (dp_mono I.bh p2) (SeqAt.canLay_of_shaped h2), h1, h2, ?_⟩
    rw [Bool.true_xor]
    exact q _ _ _ (Same.refl B) I (.bl _)⟩
def cInU (d1 d2 : PyData) : Option Bool := match d2 with
  | .tuple ds => if (SeqAt.shaped d1 && SeqAt.shaped (.tuple ds)) = true then some (ds.any fun z => PyData.eqv z d1) else none
  | _ => none
def cNiU (d1 d2 : PyData) : Option Bool := (cInU d1 d2).map (!·)
theorem ok_inu : OkC M k N (compareOp .In) cInU := fun sc X W c d1 d2 d h => by
  unfold cInU at h
  split at h
  · split at h
    · rename_i q
      cases h
      rw [Bool.and_eq_true] at q
      exact o_inU c.toCv q.1 q.2
    · cases h
  · cases h
theorem ok_niu : OkC M k N (compareOp .NotIn) cNiU := fun sc X W c d1 d2 d h => by
  obtain ⟨b, h', rfl⟩ := map_not h
  clear h
  have h := h'
  clear h'
  unfold cInU at h
  split at h
  · split at h
    · rename_i q
      cases h
      rw [Bool.and_eq_true] at q
      exact o_niU c.toCv q.1 q.2
    · cases h
  · cases h
end
end Rl

/-! Sets: what set(..) of a list or a tuple has, whatever is added how; sets of ints and texts. -/
namespace Rl
open PySem PySem.Spec PyProof.Rows L2 Dl
/-- a new set -/
abbrev nSet (w : World) : Obj := { cls := .type "set", dict := none, data := .set #[] 0 (.fresh 0 0 (!w.params.followText "set-order")) }
theorem perm_pre {α β : Type} {f : α → β} : ∀ {l m : List β}, l.Perm m → ∀ L : List α, m = L.map f → ∃ L' : List α, L'.Perm L ∧ l = L'.map f := by
  intro l m p
  induction p with
  | nil => intro L e; exact ⟨L, List.Perm.refl _, e⟩
  | @cons x l1 l2 _ ih =>
    intro L e
    cases L with
    | nil => cases e
    | cons y L =>
      injection e with e1 e2
      obtain ⟨L', p', e'⟩ := ih L e2
      exact ⟨y :: L', p'.cons y, by rw [List.map_cons, e1, e']⟩
  | swap x y l =>
    intro L e
    match L, e with
    | a :: b :: L, e =>
      injection e with e1 e2
      injection e2 with e2 e3
      exact ⟨b :: a :: L, List.Perm.swap .., by rw [List.map_cons, List.map_cons, e1, e2, e3]⟩
    | [a], e => injection e with _ e; cases e
    | [], e => cases e
  | trans _ _ ih1 ih2 =>
    intro L e
    obtain ⟨L2, p2, e2⟩ := ih2 L e
    obtain ⟨L1, p1, e1⟩ := ih1 L2 e2
    exact ⟨L1, p1.trans p2, e1⟩
/-- what the set has got of the items ks -/
structure GotK {α κ : Type} (ks L : List (α × κ)) : Prop where
  sub : ∀ p ∈ L, p ∈ ks
  all : ∀ p ∈ ks, p.2 ∈ L.map (·.2)
  len : L.length ≤ ks.length
theorem GotK.zero {α κ : Type} : GotK (α := α) (κ := κ) [] [] := ⟨fun p h => (by cases h), fun p h => (by cases h), Nat.le_refl _⟩
theorem GotK.stay {α κ : Type} {ks L : List (α × κ)} {x : α × κ} (g : GotK ks L) (hm : x.2 ∈ L.map (·.2)) : GotK (ks ++ [x]) L where
  sub p hp := List.mem_append_left _ (g.sub p hp)
  all p hp := by
    rcases List.mem_append.mp hp with z | z
    · exact g.all p z
    · rw [List.mem_singleton.mp z]; exact hm
  len := by rw [List.length_append]; have := g.len; omega
theorem GotK.grow {α κ : Type} {ks L L' : List (α × κ)} {x : α × κ} (g : GotK ks L) (pm : L'.Perm (x :: L)) : GotK (ks ++ [x]) L' where
  sub p hp := by
    rcases List.mem_cons.mp (pm.mem_iff.mp hp) with z | z
    · rw [z]; exact List.mem_append_right _ (List.mem_singleton.mpr rfl)
    · exact List.mem_append_left _ (g.sub p z)
  all p hp := by
    have hm := (pm.map (·.2)).mem_iff (a := p.2)
    rw [hm, List.map_cons]
    rcases List.mem_append.mp hp with z | z
    · exact List.mem_cons_of_mem _ (g.all p z)
    · rw [List.mem_singleton.mp z]; exact List.mem_cons_self
  len := by rw [List.length_append, pm.length_eq, List.length_cons]; have := g.len; simp; omega

section
variable {P : Program} {w : World} {A : Around} {E : Value → Shared → Prop} {s : Shared}
/-! ### the loop of set.update, whatever the items are -/
theorem set_loop {I : Addr} {fp wr : List Addr} {G : Array GenState → Array GenState → Prop} {n : Nat} {Pv : Nat → Value → Prop} {St : Nat → Shared → Prop} {R : Result → Shared → Prop}
    (W : WalksS P w A.in1 I fp wr G n Pv St) (T : Addr) (hT : T ∉ fp) (J : Nat → Heap → Prop)
    (hJ : ∀ i h h', J i h → (∀ b o, b ∉ wr → h.get? b = some o → h'.get? b = some o) → J i h')
    (hA : ∀ i v (s : Shared) (Q : Bool → Shared → Prop) (E' : Value → Shared → Prop), i < n → Pv i v → J i s.heap → (∀ b h' tk, s.toks ≤ tk → Heap.SameBut T s.heap h' → J (i + 1) h' → Q b { s with heap := h', toks := tk }) → wpAny (model P w) A.in1 (setAdd T v) Q E' s) :
    ∀ (m i : Nat) (s : Shared), n - i = m → i ≤ n → St i s → J i s.heap → (∀ s', Moved (T :: wr) G s s' → J n s'.heap → R (.ok (.ret .none)) s') →
      codeAny (model P w) A (.builtin "set.update.loop" ⟨[.ref T, .ref I], []⟩) R s := by
  have up : ∀ b ∈ wr, b ∈ T :: wr := fun b => List.mem_cons_of_mem _
  intro m
  induction m with
  | zero =>
    intro i s e hi st j hR
    obtain rfl : i = n := by omega
    refine codeAny_builtin F.entry_set_update_loop ?_
    rw [Around.under_plainId F.plain_set_update_loop _]
    show wpAny _ A.in1 (pyNext (.ref I) >>= _) _ _ s
    exact wpAny_bind (W.done s _ _ st fun s' mv => wpAny_pure (hR s' (mv.mono up) (hJ _ _ _ j fun b o nb => mv.heap b o nb)))
  | succ m ih =>
    intro i s e hi st j hR
    have lt : i < n := by omega
    refine codeAny_builtin F.entry_set_update_loop ?_
    rw [Around.under_plainId F.plain_set_update_loop _]
    show wpAny _ A.in1 (pyNext (.ref I) >>= _) _ _ s
    refine wpAny_bind (W.item i s _ _ lt st fun v s' pv st' mv => ?_)
    have j' : J i s'.heap := hJ _ _ _ j fun b o nb => mv.heap b o nb
    show wpAny _ A.in1 (holding [v] (setAdd T v) >>= _) _ _ s'
    refine wpAny_bind (wpAny_holding (hA i v s' _ _ lt pv j' fun b h' tk le sb j2 => ?_))
    refine wpAny_pure ⟨plainId_quiet F.plain_set_update_loop _, ih (i + 1) _ (by omega) lt (W.frame _ s' _ _ st' le fun b hb o eb => ?_) j2 fun s2 mv2 j3 => ?_⟩
    · rw [sb.2 b fun z => hT (z ▸ hb)]; exact eb
    · exact hR s2 (Moved.trans W.gtrans ((mv.mono up).then_heap le fun b o nb eb => (sb.2 b fun z => nb (z ▸ List.mem_cons_self)).trans eb) mv2) j3

set_option maxRecDepth 100000 in
set_option maxHeartbeats 3200000 in
/-- set(xs), xs a list -/
theorem call_set_list {l : Addr} {its : Array Value} {Q : Value → Shared → Prop} (hh : A.handled = none) (hl : s.heap.IsList l its) (J : Nat → Heap → Prop)
    (hJ : ∀ i h h', J i h → (∀ b o, b ≠ s.heap.objs.size + 1 → h.get? b = some o → h'.get? b = some o) → J i h')
    (h0 : ∀ h' : Heap, (∀ b o, s.heap.get? b = some o → h'.get? b = some o) → h'.get? s.heap.objs.size = some (nSet w) → J 0 h')
    (hA : ∀ i v (s1 : Shared) (B : Around) (Q : Bool → Shared → Prop) (E' : Value → Shared → Prop), B.units ≤ A.units + 9 → its[i]? = some v → J i s1.heap → (∀ b h' tk, s1.toks ≤ tk → Heap.SameBut s.heap.objs.size s1.heap h' → J (i + 1) h' → Q b { s1 with heap := h', toks := tk }) → wpAny (model P w) B (setAdd s.heap.objs.size v) Q E' s1)
    (h : ∀ (h' : Heap) (tk : Nat), J its.size h' → (∀ b o, s.heap.get? b = some o → h'.get? b = some o) → Q (.ref s.heap.objs.size) { s with heap := h', toks := tk }) :
    wpAny (model P w) A (call (.type "set") [.ref l]) Q E s := by
  obtain ⟨cc, tl, hmro⟩ := F.called_set.mro
  have hmade := F.called_set.made; have hsub := F.called_set.sub
  refine wpAny_call (codeAny_of_tree ?_)
  show wpAny _ _ (callAny (.type "set") _) _ _ _
  refine wpAny_pure ⟨Code.quiet_builtin _ (by decide +kernel), codeAny_builtin F.entry_type_call ?_⟩
  rw [Around.under_plain (weight_type_call_type "set" [.ref l] []) rfl]
  have q1 := F.called_set.notType; have q2 := F.called_set.canCreate; have q3 := F.typeCall_set_1 (.ref l)
  repeat (any_goals (first | assumption | wp_step))
  refine codeAny_mono (code_set_led1 (.ref l) (E := E) (Q₁ := fun ob s₁ => ob = .ref s.heap.objs.size ∧ s₁ = { s with heap := s.heap.push (nSet w) }) ⟨rfl, rfl⟩) fun r s₁ hr => ?_
  cases r with
  | error e => exact hr
  | ok fl =>
    cases fl with
    | ret ob =>
      obtain ⟨rfl, rfl⟩ := hr
      have hS : (s.heap.push (nSet w)).get? s.heap.objs.size = some (nSet w) := Heap.get?_push_size _ rfl
      have hT : Shared.TypeIs { s with heap := s.heap.push (nSet w) } (.ref s.heap.objs.size) "set" := ⟨_, hS, rfl⟩
      have hli := F.called_set.init.lookup; have hbi := F.called_set.init.bind (.ref s.heap.objs.size)
      repeat (any_goals (first | assumption | wp_step))
      refine codeAny_mono (codeAny_call_builtin (R := wants (fun r s₂ => r = .none ∧ ∃ h' tk, s₂ = { s with heap := h', toks := tk } ∧ J its.size h' ∧ (∀ b o, s.heap.get? b = some o → h'.get? b = some o)) E) F.called_set.init.plain F.entry_set_init (check_set_init_1 hT ?_)) fun r₂ s₂ hr₂ => ?_
      · obtain ⟨⟨oc, od, odt, os⟩, hol, hcl, nl, hdl⟩ := hl
        simp only at hcl hdl
        subst hcl; subst hdl
        have hol' : (s.heap.push (nSet w)).get? l = some { cls := .type "list", dict := od, data := .seq its nl, slots := os } := Heap.get?_push_of_some _ hol
        have hs1 := F.sub_list_set; have hs2 := F.sub_list_frozenset
        have hne : (Value.type "list" == Value.type "dict") = false := by decide
        have hl1 : (s.heap.push (nSet w)).IsList l its := ⟨_, hol', rfl, nl, rfl⟩
        unfold Builtin.«set.__init__» noKeywords Builtin.Frozenset.updateFrom
        generalize hPI : pyIter = PI
        wp_walk
        subst hPI
        refine wpAny_pyIter_list hl1 (wpAny_bind (wpAny_runValue ?_))
        have hlS : l < s.heap.objs.size := Heap.lt_size hol
        have hh3 : A.in1.in1.in1.handled = none := by simp [hh]
        have hz : (s.heap.push (nSet w)).objs.size = s.heap.objs.size + 1 := Heap.size_push ..
        have hnI : l ≠ (s.heap.push (nSet w)).objs.size := by rw [hz]; exact Nat.ne_of_lt (Nat.lt_succ_of_lt hlS)
        have hSf : s.heap.objs.size ∉ [(s.heap.push (nSet w)).objs.size, l] := by
          rw [hz]; intro z
          rcases List.mem_cons.mp z with z | z
          · exact Nat.ne_of_lt (Nat.lt_succ_self _) z
          · exact Nat.ne_of_gt hlS (List.mem_singleton.mp z)
        have k2 : ∀ b o, s.heap.get? b = some o → ((s.heap.push (nSet w)).push { cls := .type "list_iterator", data := .fields #[.ref l, .int 0 0] }).get? b = some o := fun b o e => Heap.get?_push_of_some _ (Heap.get?_push_of_some _ e)
        refine set_loop ((Walks.list hh3 _ l hnI its).toS) s.heap.objs.size hSf J (fun i h h' j k => hJ i h h' j fun b o nb => k b o fun z => nb ((List.mem_singleton.mp z).trans hz)) (fun i v s1 Q E' lt pv j q => ?_)
          (its.size - 0) 0 _ (by omega) (Nat.zero_le _) ⟨⟨_, Heap.get?_push_size _ rfl, rfl, rfl⟩, hl1.push _⟩ (h0 _ k2 (Heap.get?_push_of_some _ hS)) fun s' mv j => ?_
        · exact hA i v s1 _ Q E' (by simp [Around.in1]) pv j q
        · obtain ⟨h', g2, d', tk', os'⟩ := s'
          have eg : g2 = s.gens := mv.gens
          have ed : d' = s.drawn := mv.drawn
          have eo : os' = s.os := mv.os
          subst eg; subst ed; subst eo
          show wpAny _ _ _ _ _ _
          refine wpAny_pure ?_
          show wpAny _ _ (ret Value.none) _ _ _
          refine wpAny_pure ⟨rfl, h', tk', rfl, j, fun b o e => mv.heap b o (fun z => ?_) (k2 b o e)⟩
          have lt := Heap.lt_size e
          rcases List.mem_cons.mp z with z | z
          · exact Nat.ne_of_lt lt z
          · exact Nat.ne_of_lt (Nat.lt_succ_of_lt lt) ((List.mem_singleton.mp z).trans hz)
      · cases r₂ with
        | error e => exact hr₂
        | ok fl₂ =>
          cases fl₂ with
          | ret r =>
            obtain ⟨rfl, h', tk, rfl, j, hk⟩ := hr₂
            repeat (any_goals (first | assumption | wp_step))
            exact h _ _ j hk
          | _ => exact hr₂.elim
    | _ => exact hr.elim

set_option maxRecDepth 100000 in
set_option maxHeartbeats 3200000 in
/-- set(xs), xs a tuple -/
theorem call_set_tuple {l : Addr} {its : Array Value} {Q : Value → Shared → Prop} (hh : A.handled = none) (hl : s.heap.IsTuple l its) (J : Nat → Heap → Prop)
    (hJ : ∀ i h h', J i h → (∀ b o, b ≠ s.heap.objs.size + 1 → h.get? b = some o → h'.get? b = some o) → J i h')
    (h0 : ∀ h' : Heap, (∀ b o, s.heap.get? b = some o → h'.get? b = some o) → h'.get? s.heap.objs.size = some (nSet w) → J 0 h')
    (hA : ∀ i v (s1 : Shared) (B : Around) (Q : Bool → Shared → Prop) (E' : Value → Shared → Prop), B.units ≤ A.units + 9 → its[i]? = some v → J i s1.heap → (∀ b h' tk, s1.toks ≤ tk → Heap.SameBut s.heap.objs.size s1.heap h' → J (i + 1) h' → Q b { s1 with heap := h', toks := tk }) → wpAny (model P w) B (setAdd s.heap.objs.size v) Q E' s1)
    (h : ∀ (h' : Heap) (tk : Nat), J its.size h' → (∀ b o, s.heap.get? b = some o → h'.get? b = some o) → Q (.ref s.heap.objs.size) { s with heap := h', toks := tk }) :
    wpAny (model P w) A (call (.type "set") [.ref l]) Q E s := by
  obtain ⟨cc, tl, hmro⟩ := F.called_set.mro
  have hmade := F.called_set.made; have hsub := F.called_set.sub
  refine wpAny_call (codeAny_of_tree ?_)
  show wpAny _ _ (callAny (.type "set") _) _ _ _
  refine wpAny_pure ⟨Code.quiet_builtin _ (by decide +kernel), codeAny_builtin F.entry_type_call ?_⟩
  rw [Around.under_plain (weight_type_call_type "set" [.ref l] []) rfl]
  have q1 := F.called_set.notType; have q2 := F.called_set.canCreate; have q3 := F.typeCall_set_1 (.ref l)
  repeat (any_goals (first | assumption | wp_step))
  refine codeAny_mono (code_set_led1 (.ref l) (E := E) (Q₁ := fun ob s₁ => ob = .ref s.heap.objs.size ∧ s₁ = { s with heap := s.heap.push (nSet w) }) ⟨rfl, rfl⟩) fun r s₁ hr => ?_
  cases r with
  | error e => exact hr
  | ok fl =>
    cases fl with
    | ret ob =>
      obtain ⟨rfl, rfl⟩ := hr
      have hS : (s.heap.push (nSet w)).get? s.heap.objs.size = some (nSet w) := Heap.get?_push_size _ rfl
      have hT : Shared.TypeIs { s with heap := s.heap.push (nSet w) } (.ref s.heap.objs.size) "set" := ⟨_, hS, rfl⟩
      have hli := F.called_set.init.lookup; have hbi := F.called_set.init.bind (.ref s.heap.objs.size)
      repeat (any_goals (first | assumption | wp_step))
      refine codeAny_mono (codeAny_call_builtin (R := wants (fun r s₂ => r = .none ∧ ∃ h' tk, s₂ = { s with heap := h', toks := tk } ∧ J its.size h' ∧ (∀ b o, s.heap.get? b = some o → h'.get? b = some o)) E) F.called_set.init.plain F.entry_set_init (check_set_init_1 hT ?_)) fun r₂ s₂ hr₂ => ?_
      · obtain ⟨⟨oc, od, odt, os⟩, hol, hcl, nl, hdl⟩ := hl
        simp only at hcl hdl
        subst hcl; subst hdl
        have hol' : (s.heap.push (nSet w)).get? l = some { cls := .type "tuple", dict := od, data := .seq its nl, slots := os } := Heap.get?_push_of_some _ hol
        have hs1 := F.sub_tuple_set; have hs2 := F.sub_tuple_frozenset
        have hne : (Value.type "tuple" == Value.type "dict") = false := by decide
        have hl1 : (s.heap.push (nSet w)).IsTuple l its := ⟨_, hol', rfl, nl, rfl⟩
        unfold Builtin.«set.__init__» noKeywords Builtin.Frozenset.updateFrom
        generalize hPI : pyIter = PI
        wp_walk
        subst hPI
        refine wpAny_pyIter_tuple hl1 (wpAny_bind (wpAny_runValue ?_))
        have hlS : l < s.heap.objs.size := Heap.lt_size hol
        have hh3 : A.in1.in1.in1.handled = none := by simp [hh]
        have hz : (s.heap.push (nSet w)).objs.size = s.heap.objs.size + 1 := Heap.size_push ..
        have hnI : l ≠ (s.heap.push (nSet w)).objs.size := by rw [hz]; exact Nat.ne_of_lt (Nat.lt_succ_of_lt hlS)
        have hSf : s.heap.objs.size ∉ [(s.heap.push (nSet w)).objs.size, l] := by
          rw [hz]; intro z
          rcases List.mem_cons.mp z with z | z
          · exact Nat.ne_of_lt (Nat.lt_succ_self _) z
          · exact Nat.ne_of_gt hlS (List.mem_singleton.mp z)
        have k2 : ∀ b o, s.heap.get? b = some o → ((s.heap.push (nSet w)).push { cls := .type "tuple_iterator", data := .fields #[.ref l, .int 0 0] }).get? b = some o := fun b o e => Heap.get?_push_of_some _ (Heap.get?_push_of_some _ e)
        refine set_loop ((Walks.tuple hh3 _ l hnI its).toS) s.heap.objs.size hSf J (fun i h h' j k => hJ i h h' j fun b o nb => k b o fun z => nb ((List.mem_singleton.mp z).trans hz)) (fun i v s1 Q E' lt pv j q => ?_)
          (its.size - 0) 0 _ (by omega) (Nat.zero_le _) ⟨⟨_, Heap.get?_push_size _ rfl, rfl, rfl⟩, hl1.push _⟩ (h0 _ k2 (Heap.get?_push_of_some _ hS)) fun s' mv j => ?_
        · exact hA i v s1 _ Q E' (by simp [Around.in1]) pv j q
        · obtain ⟨h', g2, d', tk', os'⟩ := s'
          have eg : g2 = s.gens := mv.gens
          have ed : d' = s.drawn := mv.drawn
          have eo : os' = s.os := mv.os
          subst eg; subst ed; subst eo
          show wpAny _ _ _ _ _ _
          refine wpAny_pure ?_
          show wpAny _ _ (ret Value.none) _ _ _
          refine wpAny_pure ⟨rfl, h', tk', rfl, j, fun b o e => mv.heap b o (fun z => ?_) (k2 b o e)⟩
          have lt := Heap.lt_size e
          rcases List.mem_cons.mp z with z | z
          · exact Nat.ne_of_lt lt z
          · exact Nat.ne_of_lt (Nat.lt_succ_of_lt lt) ((List.mem_singleton.mp z).trans hz)
      · cases r₂ with
        | error e => exact hr₂
        | ok fl₂ =>
          cases fl₂ with
          | ret r =>
            obtain ⟨rfl, h', tk, rfl, j, hk⟩ := hr₂
            repeat (any_goals (first | assumption | wp_step))
            exact h _ _ j hk
          | _ => exact hr₂.elim
    | _ => exact hr.elim
/-! ### ints and texts -/
/-- the set at a has the rows L -/
structure SetS (P : Program) (w : World) (h : Heap) (a : Addr) (L : List (Value × Key)) : Prop where
  ex : ∃ o es ep t, h.get? a = some o ∧ o.ExactSet ∧ o.data = .set es ep t ∧ es.toList = L.map (fun p => ((mixKind P w).hash p.2, p.1)) ∧ es.size < scanBound ∧ t.fits es.size = true ∧ Ris t.place.toList ∧ (w.params.followText "set-order" = true ∨ t.led = true)
  is : ∀ p ∈ L, (mixKind P w).is p.2 p.1 = true ∧ p.1.scannable = true
  nd : (L.map (·.2)).Nodup
theorem SetS.stay {h h' : Heap} {a : Addr} {L : List (Value × Key)} (R : SetS P w h a L) (k : ∀ o, h.get? a = some o → h'.get? a = some o) : SetS P w h' a L := by
  obtain ⟨o, es, ep, t, ho, r⟩ := R.ex
  exact ⟨⟨o, es, ep, t, k o ho, r⟩, R.is, R.nd⟩
theorem setS_new {h : Heap} {a : Addr} (ho : h.get? a = some (nSet w)) : SetS P w h a [] where
  ex := ⟨_, #[], 0, _, ho, ⟨rfl, rfl, rfl⟩, rfl, rfl, by decide, by rfl, List.Pairwise.nil, by
    show _ ∨ (!w.params.followText "set-order") = true
    cases w.params.followText "set-order"
    · exact .inr rfl
    · exact .inl rfl⟩
  is p hp := by cases hp
  nd := List.nodup_nil
theorem elems_of {L : List (Value × Key)} (h : ∀ p ∈ L, (mixKind P w).is p.2 p.1 = true ∧ p.1.scannable = true) : ElemsOf (mixKind P w) (L.map fun p => ((mixKind P w).hash p.2, p.1)) := fun e he => by
  obtain ⟨p, hp, rfl⟩ := List.mem_map.mp he
  exact ⟨⟨p.2, (h p hp).1, rfl⟩, (h p hp).2⟩
theorem setS_tail {a : Addr} {g : Bool → Sem Unit} (hg : ∀ (b : Bool) (s₁ : Shared) (Q' : Unit → Shared → Prop), Q' () s₁ → wpAny (model P w) A (g b) Q' E s₁)
    {o : Obj} {es es1 : Array (Int × Value)} {ep : Nat} {t t2 : SetTable} {L1 : List (Value × Key)} (ho : s.heap.get? a = some o) (hex : o.ExactSet) (hd : o.data = .set es ep t)
    (rows : es1.toList = L1.map (fun p => ((mixKind P w).hash p.2, p.1))) (is1 : ∀ p ∈ L1, (mixKind P w).is p.2 p.1 = true ∧ p.1.scannable = true) (nd1 : (L1.map (·.2)).Nodup)
    (hb1 : es1.size < scanBound) (hf2 : t2.fits es1.size = true) (hr : Ris t2.place.toList) (hl : w.params.followText "set-order" = true ∨ t2.led = true) {wd : Bool} {R : Option Bool → Shared → Prop}
    (hR : ∀ h' L', Heap.SameBut a s.heap h' → SetS P w h' a L' → L'.Perm L1 → R (some true) { s with heap := h' }) :
    wpAny (model P w) A (do
        storeSet a es1 t2
        if (!wd && t2.tooFull) = true then do
            g (relayAll t2 es1 (SetTable.grown es1.size)).2.2
            storeSet a (relayAll t2 es1 (SetTable.grown es1.size)).1 (relayAll t2 es1 (SetTable.grown es1.size)).2.1
            pure (some true)
          else pure (some true)) R E s := by
  refine wpAny_bind (wpAny_storeSet_of ho hd ?_ (fits_of_scanBound hb1))
  have ho1 := store_at (es' := es1) (t' := t2) ho hd
  have sb1 := Heap.SameBut.update s.heap a (Obj.putSet es1 t2)
  split
  · have pm := relayAll_perm t2 es1 (SetTable.grown es1.size); have hf3 := relayAll_fits t2 es1 (SetTable.grown es1.size)
    have hr3 := relayAll_ris t2 es1 (SetTable.grown es1.size); have hl3 := relayAll_led t2 es1 (SetTable.grown es1.size)
    generalize relayAll t2 es1 (SetTable.grown es1.size) = Z at pm hf3 hr3 hl3 ⊢
    obtain ⟨es2, t3, gv⟩ := Z
    dsimp only at pm hf3 hr3 hl3 ⊢
    obtain ⟨L2, p2, e2⟩ := perm_pre pm L1 rows
    have hsz : es2.size = es1.size := by rw [← Array.length_toList, pm.length_eq, Array.length_toList]
    have hb2 : es2.size < scanBound := by rw [hsz]; exact hb1
    refine wpAny_bind (hg _ _ _ (wpAny_bind (wpAny_storeSet_of ho1 rfl ?_ (fits_of_scanBound hb2))))
    have ho2 := store_at (es' := es2) (t' := t3) ho1 rfl
    exact wpAny_pure (hR _ L2 (sb1.trans (Heap.SameBut.update _ a _)) ⟨⟨_, es2, _, t3, ho2, hex, rfl, e2, hb2, hf3, hr3, hl.imp id fun z => by rw [hl3]; exact z⟩, fun p hp => is1 p (p2.mem_iff.mp hp), (p2.map (·.2)).nodup_iff.mpr nd1⟩ p2)
  · exact wpAny_pure (hR _ L1 sb1 ⟨⟨_, es1, _, t2, ho1, hex, rfl, rows, hb1, hf2, hr, hl⟩, is1, nd1⟩ (List.Perm.refl _))
theorem setS_add {a : Addr} {L : List (Value × Key)} {v : Value} {k : Key} {Q : Bool → Shared → Prop} (R : SetS P w s.heap a L) (hk : (mixKind P w).is k v = true) (hsc : v.scannable = true) (room : L.length + 1 < scanBound)
    (hQ : ∀ b h' L', Heap.SameBut a s.heap h' → SetS P w h' a L' → (k ∈ L.map (·.2) → L' = L) → (k ∉ L.map (·.2) → L'.Perm ((v, k) :: L)) → Q b { s with heap := h' }) :
    wpAny (model P w) A (setAddHashed a v ((mixKind P w).hash k)) Q E s := by
  obtain ⟨o, es, ep, t, ho, hex, hd, rows, hb, hf, hr, hl⟩ := R.ex
  have hel : ElemsOf (mixKind P w) es.toList := by rw [rows]; exact elems_of R.is
  unfold setAddHashed setAddHashedIn
  refine wpAny_holding (wpAny_bind (wpAny_setState_of ho hd hf ?_))
  dsimp only
  rw [byScan_of hsc hb hel]
  simp only [↓reduceIte]
  unfold setAddByScan
  refine wpAny_bind (wpAny_bind (wpAny_rule (wpAny_bind (wpAny_setScan_of hk ho hd hf hel ?_))))
  have find : ∀ e ∈ es.toList, (mixKind P w).is k e.2 = true → k ∈ L.map (·.2) := fun e he q => by
    rw [rows] at he
    obtain ⟨p, hp, rfl⟩ := List.mem_map.mp he
    rw [(mixKind P w).inj _ _ _ q (R.is p hp).1]
    exact List.mem_map.mpr ⟨p, hp, rfl⟩
  cases hfi : List.findIdx? (fun e => (mixKind P w).is k e.2) es.toList with
  | some j =>
    dsimp only
    obtain ⟨hj, pj, _⟩ := List.findIdx?_eq_some_iff_getElem.mp hfi
    have hin := find _ (List.getElem_mem hj) pj
    exact wpAny_pure (wpAny_pure (hQ _ s.heap L (Heap.SameBut.refl a s.heap) R (fun _ => rfl) fun z => absurd hin z))
  | none =>
    dsimp only
    have hnk : k ∉ L.map (·.2) := fun z => by
      obtain ⟨p, hp, q⟩ := List.mem_map.mp z
      have c := List.findIdx?_eq_none_iff.mp hfi ((mixKind P w).hash p.2, p.1) (by rw [rows]; exact List.mem_map.mpr ⟨p, hp, rfl⟩)
      rw [← q, (R.is p hp).1] at c
      cases c
    have hgw : ∀ (b : Bool) {s₁ : Shared} {Q' : Unit → Shared → Prop}, Q' () s₁ → wpAny (model P w) A (match b with | true => rule "set.scan.the-table-gave-way" | false => pure ()) Q' E s₁ :=
      fun b s₁ Q' q => by cases b <;> first | exact wpAny_pure q | exact wpAny_rule q
    have pm := layNew_perm t es ((mixKind P w).hash k) v; have hf1 := layNew_fits t es ((mixKind P w).hash k) v
    have hr1 := layNew_ris t es ((mixKind P w).hash k) v hr; have hl1 := layNew_led t es ((mixKind P w).hash k) v
    generalize layNew t es ((mixKind P w).hash k) v = Z at pm hf1 hr1 hl1 ⊢
    obtain ⟨es1, t1, wd, gv⟩ := Z
    dsimp only at pm hf1 hr1 hl1 ⊢
    rw [Array.toList_push] at pm
    obtain ⟨L1, p1, e1⟩ := perm_pre (f := fun p : Value × Key => ((mixKind P w).hash p.2, p.1)) (pm.trans (List.perm_append_singleton _ _)) ((v, k) :: L) (by rw [List.map_cons, rows])
    have is1 : ∀ p ∈ L1, (mixKind P w).is p.2 p.1 = true ∧ p.1.scannable = true := fun p hp => by
      rcases List.mem_cons.mp (p1.mem_iff.mp hp) with z | z
      · rw [z]; exact ⟨hk, hsc⟩
      · exact R.is p z
    have nd1 : (L1.map (·.2)).Nodup := (p1.map (·.2)).nodup_iff.mpr (List.nodup_cons.mpr ⟨hnk, R.nd⟩)
    have hsz : es1.size = L.length + 1 := by rw [← Array.length_toList, e1, List.length_map, p1.length_eq, List.length_cons]
    have hb1 : es1.size < scanBound := by rw [hsz]; exact room
    have hled : w.params.followText "set-order" = true ∨ t1.led = true := hl.imp id fun z => by rw [hl1]; exact z
    have fin : ∀ h' L', Heap.SameBut a s.heap h' → SetS P w h' a L' → L'.Perm L1 → Q true { s with heap := h' } := fun h' L' sb r p => hQ _ h' L' sb r (fun z => absurd z hnk) fun _ => p.trans p1
    refine wpAny_bind (hgw _ ?_)
    split
    · refine wpAny_bind ?_
      rw [hashByValue_scannable 8 hsc]
      refine wpAny_pure (setS_tail ?_ ho hex hd e1 is1 nd1 hb1 ?_ ?_ ?_ ?_)
      · intro b s₁ Q' q; cases b <;> first | exact wpAny_pure q | exact wpAny_rule q
      · first | (split <;> first | exact hf1 | exact SetTable.fits_plain_off hf1) | exact hf1
      · first | (split <;> exact hr1) | exact hr1
      · first | (split <;> exact hled) | exact hled
      · intro h' L' sb r p; dsimp only; exact wpAny_pure (fin h' L' sb r p)
    · refine wpAny_bind (wpAny_pure ?_)
      simp only [↓reduceIte]
      refine setS_tail ?_ ho hex hd e1 is1 nd1 hb1 hf1 hr1 hled ?_
      · intro b s₁ Q' q; cases b <;> first | exact wpAny_pure q | exact wpAny_rule q
      · intro h' L' sb r p; dsimp only; exact wpAny_pure (fin h' L' sb r p)
end
end Rl

/-! Tables of sets up to 512 slots: where a search ends, what a wider table holds. -/
namespace Rl
open PySem PySem.Spec PyProof.Rows L2 Dl
def MaskW (m : Nat) : Prop := MaskOk m ∨ m = 511
/-! every slot comes on the way, at 511 -/
/-- where j stands in the round of 5 i + 1 at 512 -/
def invL : List Nat → Nat → List (Nat × Nat)
  | [], _ => []
  | x :: r, n => (x, n) :: invL r (n + 1)
def stepsW : Nat → Nat → List Nat
  | 0, _ => []
  | f + 1, x => x :: stepsW f ((x * 5 + 1) % 512)
theorem steps_at : ∀ (f i a : Nat), i < f → (stepsW f (lcgN 511 a))[i]? = some (lcgN 511 (a + i))
  | 0, i, _, h => absurd h (Nat.not_lt_zero i)
  | f + 1, 0, _, _ => rfl
  | f + 1, i + 1, a, h => by
    show (stepsW f (lcgN 511 (a + 1)))[i]? = _
    rw [steps_at f i (a + 1) (Nat.lt_of_succ_lt_succ h), Nat.add_right_comm, Nat.add_assoc]
theorem steps_all : ((List.range 512).all fun j => (stepsW 512 0).contains j) = true := by decide +kernel
theorem round511 : lcgN 511 512 = 0 := by decide +kernel
theorem back511 : ∀ n, lcgN 511 (512 + n) = lcgN 511 n
  | 0 => round511
  | n + 1 => congrArg (fun x => (x * 5 + 1) % 512) (back511 n)
theorem all511 (j : Nat) (h : j < 512) : ∃ b, b < 512 ∧ lcgN 511 b = j := by
  have h1 := List.contains_iff_mem.mp (List.all_eq_true.mp steps_all j (List.mem_range.mpr h))
  obtain ⟨i, hi⟩ := List.getElem?_of_mem h1
  have hl : (stepsW 512 0).length = 512 := by decide +kernel
  have hb : i < 512 := by have := (List.getElem?_eq_some_iff.mp hi).1; omega
  have e := steps_at 512 i 0 hb
  rw [Nat.zero_add] at e
  exact ⟨i, hb, Option.some.inj (e.symm.trans hi)⟩
theorem meet511 (h : Int) (j : Nat) (hj : j < 512) : ∃ n, n ≤ 523 ∧ runI 511 (SetTable.bits h) n = j := by
  obtain ⟨a, ha, ea⟩ := all511 (runI 511 (SetTable.bits h) 12) (Nat.lt_succ_of_le (runI_le 511 _ 12))
  obtain ⟨b, hb, eb⟩ := all511 j hj
  have key : ∀ n, lcgN 511 (a + n) = j → runI 511 (SetTable.bits h) (12 + n) = j := fun n e => by rw [runI_tail (bits_lt h), ← ea, lcgN_add, e]
  by_cases c : a ≤ b
  · exact ⟨12 + (b - a), by omega, key _ (by rw [Nat.add_sub_cancel' c, eb])⟩
  · refine ⟨12 + (512 + b - a), by omega, key _ ?_⟩
    rw [show a + (512 + b - a) = 512 + b by omega, back511, eb]
theorem meetW {m : Nat} (hm : MaskW m) (h : Int) (j : Nat) (hj : j ≤ m) : ∃ n, n ≤ m + 12 ∧ runI m (SetTable.bits h) n = j := by
  rcases hm with z | rfl
  · exact run_meets z h hj
  · exact meet511 h j (by omega)
theorem way_in (m : Nat) (h : Int) (k : Nat) : way m h k ≤ m := by
  have b0 := runEnd_bd (show SetTable.bits h % (m + 1) ≤ m from Nat.le_of_lt_succ (Nat.mod_lt _ (Nat.succ_pos m)))
  have := nth_in k (runAt m (SetTable.bits h % (m + 1)) (SetTable.bits h)) (Nat.le_trans (Nat.le_of_eq (Nat.add_sub_cancel' b0.2.1)) b0.1)
  exact Nat.le_trans (Nat.le_add_right _ _) this
/-! the table -/
/-- the slot of a hash is met behind taken slots alone -/
def Met (m : Nat) (ps : List Nat) (x : Nat × Int) : Prop := ∃ k, way m x.2 k = x.1 ∧ ∀ i < k, way m x.2 i ∈ ps
structure TabW (t : SetTable) (hs : List Int) : Prop where
  ris : Ris t.place.toList
  dm : t.dummies = #[]
  sz : t.place.size = hs.length
  mok : MaskW t.mask
  bd : ∀ x ∈ t.place.toList, x ≤ t.mask
  met : ∀ x ∈ t.place.toList.zip hs, Met t.mask t.place.toList x
variable {t : SetTable} {hs : List Int}
theorem TabW.len (T : TabW t hs) : t.place.toList.length = hs.length := T.sz
theorem TabW.first (T : TabW t hs) (hl : hs.length ≤ t.mask) (h : Int) : ∃ n, n < 10 * SetTable.turns t.mask ∧ way t.mask h n ∉ t.place.toList ∧ ∀ i, i < n → way t.mask h i ∈ t.place.toList := by
  obtain ⟨j, h1, h2⟩ := st_missing t.place.toList (t.mask + 1) (by rw [T.len]; omega)
  obtain ⟨r, h3, h4⟩ := meetW T.mok h j (by omega)
  obtain ⟨s, h5, h6⟩ := run_nth t.mask (SetTable.bits h) r
  have h7 : way t.mask h s = j := (congrArg SetTable.Probe.j h6).trans h4
  obtain ⟨n, g1, g2, g3⟩ := st_least (p := fun i => ¬ way t.mask h i ∈ t.place.toList) s (fun z => h2 (h7 ▸ z))
  exact ⟨n, by have : SetTable.turns t.mask = t.mask + 12 + 1 ∨ t.mask + 12 < SetTable.turns t.mask := by unfold SetTable.turns; omega
               omega, g2, fun i hi => Classical.byContradiction (g3 i hi)⟩
theorem zip_get {α β : Type} : ∀ {xs : List α} {ys : List β} {i : Nat} {x : α} {y : β}, xs[i]? = some x → ys[i]? = some y → (x, y) ∈ xs.zip ys
  | [], _, _, _, _, h, _ => by simp at h
  | _, [], _, _, _, _, h => by simp at h
  | a :: xs, b :: ys, 0, _, _, h1, h2 => by cases h1; cases h2; exact List.mem_cons_self
  | a :: xs, b :: ys, i + 1, _, _, h1, h2 => List.mem_cons_of_mem _ (zip_get (i := i) h1 h2)
theorem TabW.before (T : TabW t hs) {h : Int} {n i j : Nat} (hn : way t.mask h n ∉ t.place.toList) (hi : hs[i]? = some h) (hj : t.place.toList[i]? = some j) : ∃ k, k < n ∧ way t.mask h k = j := by
  obtain ⟨k, e, z⟩ := T.met (j, h) (zip_get hj hi)
  refine ⟨k, Nat.lt_of_not_le fun c => ?_, e⟩
  rcases Nat.lt_or_eq_of_le c with c | rfl
  · exact hn (z n c)
  · exact hn (e ▸ List.mem_of_getElem? hj)
theorem ins_mem {α : Type} {x y : α} {l : List α} {p : Nat} (h : x ∈ l.take p ++ y :: l.drop p) : x = y ∨ x ∈ l := by
  rcases List.mem_append.mp h with z | z
  · exact .inr (List.mem_of_mem_take z)
  · exact (List.mem_cons.mp z).imp id List.mem_of_mem_drop
theorem ins_old {α : Type} {x y : α} {l : List α} {p : Nat} (h : x ∈ l) : x ∈ l.take p ++ y :: l.drop p := by
  rw [← List.take_append_drop p l] at h
  rcases List.mem_append.mp h with z | z
  · exact List.mem_append.mpr (.inl z)
  · exact List.mem_append.mpr (.inr (List.mem_cons_of_mem y z))
theorem zip_ins {α β : Type} {xs : List α} {ys : List β} {p : Nat} {x : α} {y : β} (hl : xs.length = ys.length) : (xs.take p ++ x :: xs.drop p).zip (ys.take p ++ y :: ys.drop p) = (xs.zip ys).take p ++ (x, y) :: (xs.zip ys).drop p := by
  rw [List.zip_append (by rw [List.length_take, List.length_take, hl]), List.zip_cons_cons]
  simp only [List.zip, List.take_zipWith, List.drop_zipWith]
theorem TabW.put (T : TabW t hs) {h : Int} {n : Nat} (hn : way t.mask h n ∉ t.place.toList) (hb : ∀ k, k < n → way t.mask h k ∈ t.place.toList) :
    (t.put (way t.mask h n)).2 = SetTable.below t.place (way t.mask h n) ∧ SetTable.below t.place (way t.mask h n) ≤ hs.length ∧ TabW (t.put (way t.mask h n)).1 (hs.take (SetTable.below t.place (way t.mask h n)) ++ h :: hs.drop (SetTable.below t.place (way t.mask h n))) ∧
    (t.put (way t.mask h n)).1.mask = t.mask ∧ (t.put (way t.mask h n)).1.led = t.led ∧ (t.put (way t.mask h n)).1.fill = hs.length + 1 := by
  have hw := way_in t.mask h n
  have hP : (t.put (way t.mask h n)).1.place.toList = _ := put_place t (way t.mask h n)
  have hD := put_dm T.dm (way t.mask h n)
  have hc : SetTable.below t.place (way t.mask h n) ≤ t.place.size := (below_cut T.ris (way t.mask h n)).1
  have hL : (t.put (way t.mask h n)).1.place.size = hs.length + 1 := by
    have e := congrArg List.length hP
    rw [Array.length_toList, List.length_append, List.length_cons, List.length_take, List.length_drop, T.len] at e
    omega
  refine ⟨rfl, T.sz ▸ hc, ⟨ris_insert T.ris fun z => hn ?_, hD, ?_, T.mok, fun x hx => ?_, fun x hx => ?_⟩, rfl, rfl, ?_⟩
  · rw [← Array.getElem?_toList] at z
    exact List.mem_of_getElem? z
  · rw [hL, List.length_append, List.length_cons, List.length_take, List.length_drop]
    have := T.sz
    omega
  · rw [hP] at hx
    exact (ins_mem hx).elim (fun z => z ▸ hw) (T.bd x)
  · rw [hP, zip_ins T.len] at hx
    rw [hP]
    rcases ins_mem hx with rfl | z
    · exact ⟨n, rfl, fun i hi => ins_old (hb i hi)⟩
    · obtain ⟨k, e, z⟩ := T.met x z
      exact ⟨k, e, fun i hi => ins_old (z i hi)⟩
  · show (t.put (way t.mask h n)).1.place.size + (t.put (way t.mask h n)).1.dummies.size = _
    rw [hL, hD]
    rfl
/-! a wider table -/
theorem freeW {m : Nat} (hm : MaskW m) (ow : Array (Option Nat)) (h : Int) (j : Nat) (hj : j ≤ m) (hf : oAt ow j = none) : ∃ n, SetTable.layClean.free m ow (SetTable.turns m) (SetTable.bits h % (m + 1)) (SetTable.bits h) = some (way m h n) ∧ oAt ow (way m h n) = none ∧ ∀ i < n, oAt ow (way m h i) ≠ none := by
  obtain ⟨r, h1, h2⟩ := meetW hm h j hj
  have h3 : way m h (off m (SetTable.bits h % (m + 1)) (SetTable.bits h) r) = j := (congrArg SetTable.Probe.j (nth_off m r _ _)).trans ((congrArg Prod.fst (itL_run m (SetTable.bits h) r)).trans h2)
  obtain ⟨n, g1, g2, g3⟩ := st_least (p := fun i => oAt ow (way m h i) = none) _ (h3 ▸ hf)
  refine ⟨n, free_spec m ow _ r _ _ n ?_ g1 (fun i hi => ?_) ?_, g2, g3⟩
  · unfold SetTable.turns
    omega
  · exact Option.isNone_eq_false_iff.mpr (Option.isSome_iff_ne_none.mpr (g3 i hi))
  · exact Option.isNone_iff_eq_none.mpr g2
/-- one more is laid -/
theorem ownW {m : Nat} (hm : MaskW m) {dn : List Int} {ow : Array (Option Nat)} (W : Own m dn ow) (hl : dn.length ≤ m) (h : Int) : ∃ j, SetTable.layClean.free m ow (SetTable.turns m) (SetTable.bits h % (m + 1)) (SetTable.bits h) = some j ∧ Own m (dn ++ [h]) (ow.setIfInBounds j (some dn.length)) := by
  obtain ⟨ps, h1, h2⟩ := W.ps
  obtain ⟨x, h3, h4⟩ := st_missing ps (m + 1) (by omega)
  obtain ⟨n, e1, e2, e3⟩ := freeW hm ow h x (by omega) (Classical.byContradiction fun z => h4 (h2 x (by omega) z))
  have hw := way_in m h n
  have me := oAt_set_self (some dn.length) (show way m h n < ow.size by rw [W.sz]; omega)
  have ot : ∀ {i : Nat}, i ≠ way m h n → oAt (ow.setIfInBounds (way m h n) (some dn.length)) i = oAt ow i := fun z => oAt_set_ne _ z
  have up : ∀ i, oAt ow i ≠ none → oAt (ow.setIfInBounds (way m h n) (some dn.length)) i ≠ none := fun i z => by
    rcases Classical.em (i = way m h n) with rfl | c
    · rw [me]; simp
    · rw [ot c]; exact z
  refine ⟨_, e1, { sz := by rw [Array.size_setIfInBounds, W.sz], at_ := fun j k hj e => ?_, all := fun k hk => ?_, ps := ⟨way m h n :: ps, ?_, fun j hj e => ?_⟩ }⟩
  · rcases Classical.em (j = way m h n) with rfl | c
    · rw [me] at e
      cases e
      exact ⟨h, n, List.getElem?_concat_length, rfl, fun i hi => up _ (e3 i hi)⟩
    · rw [ot c] at e
      obtain ⟨h', r, a1, a2, a3⟩ := W.at_ j k hj e
      exact ⟨h', r, List.getElem?_append_left (List.getElem?_eq_some_iff.mp a1).1 ▸ a1, a2, fun i hi => up _ (a3 i hi)⟩
  · rcases Nat.lt_or_ge k dn.length with c | c
    · obtain ⟨j, a1, a2⟩ := W.all k c
      exact ⟨j, a1, by rw [ot (fun z => by rw [z, e2] at a2; cases a2)]; exact a2⟩
    · obtain rfl : k = dn.length := by rw [List.length_append] at hk; exact Nat.le_antisymm (Nat.le_of_lt_succ hk) c
      exact ⟨_, hw, me⟩
  · rw [List.length_cons, h1, List.length_append]
    rfl
  · rcases Classical.em (j = way m h n) with rfl | c
    · exact List.mem_cons_self
    · exact List.mem_cons_of_mem _ (h2 j hj (ot c ▸ e))
theorem ownsW {m : Nat} (hm : MaskW m) : ∀ (l dn : List Int) (ow : Array (Option Nat)), Own m dn ow → dn.length + l.length ≤ m → ∃ ow', l.foldl (stepF m) (some (ow, dn.length)) = some (ow', dn.length + l.length) ∧ Own m (dn ++ l) ow'
  | [], dn, ow, W, _ => ⟨ow, rfl, (List.append_nil dn).symm ▸ W⟩
  | h :: l, dn, ow, W, hl => by
    obtain ⟨j, e, W1⟩ := ownW hm W (by rw [List.length_cons] at hl; omega) h
    obtain ⟨ow', e1, W2⟩ := ownsW hm l (dn ++ [h]) _ W1 (by rw [List.length_append, List.length_singleton]; rw [List.length_cons] at hl; omega)
    rw [List.length_append, List.length_singleton] at e1
    rw [List.append_assoc] at W2
    refine ⟨ow', ?_, W2⟩
    rw [List.foldl_cons, stepF_some e, e1, List.length_cons]
    congr 2
    omega
theorem layW {m : Nat} (hm : MaskW m) {xs : Array Int} (hn : xs.size ≤ m) : ∃ ow, SetTable.layClean m xs = some ow ∧ Own m xs.toList ow := by
  obtain ⟨ow, e, W⟩ := ownsW hm xs.toList [] _ (Own.init m) (by rw [List.length_nil, Array.length_toList]; omega)
  refine ⟨ow, ?_, W⟩
  rw [layClean_eq]
  exact (congrArg (Option.map Prod.fst) e).trans rfl
theorem relaidW (t : SetTable) {xs : Array Int} {wt M : Nat} (hw : SetTable.sizeAbove wt - 1 = M) (hM : MaskW M) (hn : xs.size ≤ M) : ∃ t' ord, t.relaid xs wt = some (t', ord) ∧ ord.toList.Perm (List.range xs.size) ∧ TabW t' (ord.toList.map fun i => xs.getD i 0) ∧ t'.mask = M ∧ t'.led = t.led ∧ t'.dummies = #[] := by
  obtain ⟨ow, e, W⟩ := layW hM hn
  have inL := fun {j k : Nat} => mem_live (j := j) (k := k) W.sz
  have rr := ris_live (fun j => ow.getD j none) (List.range (M + 1)) List.pairwise_lt_range
  have nd : ((liveOf M ow).map (·.1)).Nodup := rr.1.imp fun h => Nat.ne_of_lt h
  have hall : ∀ k, k < xs.size → k ∈ (liveOf M ow).map (·.2) := fun k hk => by
    obtain ⟨j, a1, a2⟩ := W.all k hk
    exact List.mem_map.mpr ⟨_, inL.mpr ⟨a1, a2⟩, rfl⟩
  have hlen : (liveOf M ow).length = xs.size := by
    obtain ⟨ps, p1, p2⟩ := W.ps
    have u1 := nat_nodup_len _ ps nd fun x hx => by
      obtain ⟨⟨y, k⟩, hq, rfl⟩ := List.mem_map.mp hx
      obtain ⟨b1, b2⟩ := inL.mp hq
      exact p2 _ b1 (by rw [b2]; simp)
    have u2 := nat_nodup_len (List.range xs.size) _ List.nodup_range fun k hk => hall k (List.mem_range.mp hk)
    rw [List.length_map] at u1 u2
    rw [List.length_range] at u2
    have u3 : xs.toList.length = xs.size := rfl
    omega
  refine ⟨tabOf t M ow, ((liveOf M ow).map (·.2)).toArray, ?_, perm_range _ _ (by rw [List.length_map]; exact hlen) hall, { ris := rr.1, dm := rfl, sz := ?_, mok := hM, bd := fun x hx => Nat.le_of_lt_succ (List.mem_range.mp (rr.2 x hx)), met := fun x hx => ?_ }, rfl, rfl, rfl⟩
  · rw [relaid_eq, hw, e]
    rfl
  · show ((liveOf M ow).map (·.1)).toArray.size = _
    simp only [List.size_toArray, List.length_map]
  · have hx : x ∈ ((liveOf M ow).map (·.1)).zip (((liveOf M ow).map (·.2)).map fun i => xs.getD i 0) := hx
    rw [List.map_map, List.zip_map', List.mem_map] at hx
    obtain ⟨⟨y, k⟩, hq, rfl⟩ := hx
    obtain ⟨b1, b2⟩ := inL.mp hq
    obtain ⟨h0, r, a1, a2, a3⟩ := W.at_ y k b1 b2
    have e0 : xs.getD k 0 = h0 := by
      rw [Array.getElem?_toList] at a1
      rw [Array.getD_eq_getD_getElem?, a1]
      rfl
    refine ⟨r, ?_, fun i hi => ?_⟩
    · show way M (xs.getD k 0) r = y
      rw [e0, a2]
    · show way M (xs.getD k 0) i ∈ (liveOf M ow).map (·.1)
      rw [e0]
      obtain ⟨z, hz⟩ := Option.ne_none_iff_exists'.mp (a3 i hi)
      exact List.mem_map.mpr ⟨_, inL.mpr ⟨way_in M h0 i, hz⟩, rfl⟩
end Rl

/-! Sets of tuples of ints and texts. -/
namespace Rl
open PySem PySem.Spec PyProof.Rows L2 Dl
abbrev tH (P : Program) (w : World) (k : List Key) : Int := tupleKeyHash (mixKind P w) k
abbrev IsQ (P : Program) (w : World) (h : Heap) (k : List Key) (a : Addr) : Prop := IsTupleKey (mixKind P w) h k a
section
variable {P : Program} {w : World} {A : Around} {E : Value → Shared → Prop} {s : Shared}
def atomV : Value → Bool
  | .int _ _ => true
  | .str _ _ => true
  | _ => false
theorem items_atom {k : List Key} {vs : List Value} (h : PySem.ItemsAre (mixKind P w) k vs) : ∀ v ∈ vs, atomV v = true := by
  induction h with
  | nil => intro v hv; cases hv
  | @cons k0 v' ks vs h1 _ ih =>
    intro v hv
    rcases List.mem_cons.mp hv with e | hv
    · rcases keyIs_shape h1 with ⟨i, t, _, e2⟩ | ⟨x, t, _, e2⟩ <;> rw [e, e2] <;> rfl
    · exact ih v hv
theorem ofClass_atom (n : Nat) {v : Value} (h : atomV v = true) : ofAClassStatement n v = pure false := by
  cases v <;> first | (cases n <;> rfl) | cases h
theorem hashBy_atom (n : Nat) {v : Value} (h : atomV v = true) : hashByValue n v = pure (plainKind v) := by
  cases v <;> first | (cases n <;> rfl) | cases h
theorem ofClass_q {k : List Key} {b : Addr} {Q : Bool → Shared → Prop} (hk : IsQ P w s.heap k b) (h : Q false s) : wpAny (model P w) A (ofAClassStatement 8 (.ref b)) Q E s := by
  have hT := hk.typeIs
  obtain ⟨o, its, n, ho, _, hd, hi⟩ := hk
  unfold ofAClassStatement
  refine wpAny_bind (wpAny_typeOf hT ?_)
  dsimp only
  have e : (("tuple" : String) == "tuple") = true := by decide
  simp only [e, if_true, Bool.not_true, Bool.false_eq_true, if_false]
  try refine wpAny_bind (wpAny_pure ?_)
  try simp only [Bool.not_true, Bool.false_eq_true, if_false]
  show wpAny _ _ (seqItems? (.ref b) >>= _) _ _ s
  refine wpAny_bind (wpAny_seqItems ho hd ?_)
  dsimp only
  refine wpAny_bind ?_
  show wpAny _ _ (forIn its _ _) _ _ s
  rw [← Array.forIn_toList]
  refine wpAny_forIn_list _ (fun rest r s' => r.1 = none ∧ s' = s ∧ ∀ v ∈ rest, atomV v = true) _ ?_ ?_ _ _ ⟨rfl, rfl, items_atom hi⟩
  · rintro v rest r s' ⟨hr, rfl, hall⟩
    rw [ofClass_atom _ (hall v List.mem_cons_self)]
    refine wpAny_bind (wpAny_pure ?_)
    simp only [Bool.false_eq_true, if_false]
    exact wpAny_pure ⟨rfl, rfl, fun u hu => hall u (List.mem_cons_of_mem _ hu)⟩
  · rintro ⟨r1, r2⟩ s' ⟨hr, rfl, _⟩
    simp only at hr
    subst hr
    exact wpAny_pure h
theorem hashBy_q {k : List Key} {b : Addr} {Q : Bool → Shared → Prop} (hk : IsQ P w s.heap k b) (h : ∀ r, Q r s) : wpAny (model P w) A (hashByValue 8 (.ref b)) Q E s := by
  have hT := hk.typeIs
  obtain ⟨o, its, n, ho, _, hd, hi⟩ := hk
  unfold hashByValue
  refine wpAny_bind (wpAny_specialOf hT F.slot_tuple_hash.lookup ?_)
  show wpAny _ _ (seqItems? (.ref b) >>= _) _ _ s
  refine wpAny_bind (wpAny_seqItems ho hd (wpAny_bind ?_))
  show wpAny _ _ (forIn its _ _) _ _ s
  rw [← Array.forIn_toList]
  refine wpAny_forIn_list _ (fun rest r s' => r.1 = none ∧ s' = s ∧ ∀ v ∈ rest, atomV v = true) _ ?_ ?_ _ _ ⟨rfl, rfl, items_atom hi⟩
  · rintro v rest r s' ⟨hr, rfl, hall⟩
    rw [hashBy_atom _ (hall v List.mem_cons_self)]
    refine wpAny_bind (wpAny_pure ?_)
    cases plainKind v
    · simp only [Bool.not_false, if_true]
      exact wpAny_pure (wpAny_pure (h _))
    · simp only [Bool.not_true, Bool.false_eq_true, if_false]
      exact wpAny_pure ⟨rfl, rfl, fun u hu => hall u (List.mem_cons_of_mem _ hu)⟩
  · rintro ⟨r1, r2⟩ s' ⟨hr, rfl, _⟩
    simp only at hr
    subst hr
    exact wpAny_pure (h _)
theorem seen_q {k : List Key} {b : Addr} {Q : Bool → Shared → Prop} (hk : IsQ P w s.heap k b) {ys : List Value} (hy : ∀ y ∈ ys, ∃ k' c, y = Value.ref c ∧ IsQ P w s.heap k' c) (h : Q false s) :
    wpAny (model P w) A (searchCouldBeSeen (.ref b) ys) Q E s := by
  unfold searchCouldBeSeen
  refine wpAny_bind ?_
  refine wpAny_forIn_list _ (fun rest r s' => r.1 = none ∧ s' = s ∧ ∀ y ∈ rest, ∃ k' c, y = Value.ref c ∧ IsQ P w s.heap k' c) _ ?_ ?_ _ _ ⟨rfl, rfl, hy⟩
  · rintro v rest r s' ⟨hr, rfl, hall⟩
    obtain ⟨k', c, rfl, hc⟩ := hall v List.mem_cons_self
    have more : ∀ y ∈ rest, ∃ k' c, y = Value.ref c ∧ IsQ P w s'.heap k' c := fun u hu => hall u (List.mem_cons_of_mem _ hu)
    dsimp only
    by_cases hv : (b == c || (carriedByValue (.ref b) && carriedByValue (.ref c))) = true
    · exact wp_if_pos hv (wpAny_pure ⟨rfl, rfl, more⟩)
    · refine wp_if_neg hv (wpAny_bind (wpAny_eqIsQuiet_tuple hk ?_))
      simp only [Bool.not_true, Bool.false_eq_true, if_false]
      refine wpAny_bind (wpAny_eqIsQuiet_tuple hc ?_)
      simp only [Bool.not_true, Bool.false_eq_true, if_false]
      refine wpAny_bind (ofClass_q hk ?_)
      simp only [Bool.false_eq_true, if_false]
      refine wpAny_bind (ofClass_q hc ?_)
      simp only [Bool.false_eq_true, if_false]
      exact wpAny_pure ⟨rfl, rfl, more⟩
  · rintro ⟨r1, r2⟩ s' ⟨hr, rfl, _⟩
    simp only at hr
    subst hr
    exact wpAny_pure h

def rowQ (P : Program) (w : World) (L : List (Addr × List Key)) : List (Int × Value) := L.map fun p => (tH P w p.2, Value.ref p.1)
/-- the set at a has the tuples L -/
structure SetQ (P : Program) (w : World) (h : Heap) (a : Addr) (L : List (Addr × List Key)) (es : Array (Int × Value)) (ep : Nat) (t : SetTable) : Prop where
  ob : ∃ o, h.get? a = some o ∧ o.ExactSet ∧ o.data = .set es ep t
  rows : es.toList = rowQ P w L
  tab : TabW t (L.map fun p => tH P w p.2)
  nd : (L.map (·.2)).Nodup
  tup : ∀ p ∈ L, IsQ P w h p.2 p.1
  led : w.params.followText "set-order" = true ∨ t.led = true
  room : L.length * 5 < t.mask * 3
  few : L.length < 300
variable {a : Addr} {L : List (Addr × List Key)} {es : Array (Int × Value)} {ep : Nat} {t : SetTable}
theorem rowQ_size (h : es.toList = rowQ P w L) : es.size = L.length := by
  have h := congrArg List.length h
  unfold rowQ at h
  rwa [Array.length_toList, List.length_map] at h
theorem SetQ.size (R : SetQ P w s.heap a L es ep t) : es.size = L.length := rowQ_size R.rows
theorem SetQ.fits {h : Heap} (R : SetQ P w h a L es ep t) : t.fits es.size = true := by
  have h1 := R.tab.sz
  rw [List.length_map] at h1
  have h2 := rowQ_size R.rows
  have h3 := R.room
  unfold SetTable.fits SetTable.fill
  rw [R.tab.dm, Bool.and_eq_true, beq_iff_eq, decide_eq_true_eq]
  show t.place.size = es.size ∧ t.place.size + 0 ≤ t.mask
  omega
theorem SetQ.entry (R : SetQ P w s.heap a L es ep t) {i : Nat} {p : Addr × List Key} (h : L[i]? = some p) : es[i]? = some (tH P w p.2, Value.ref p.1) := by
  rw [← Array.getElem?_toList, R.rows]
  unfold rowQ
  rw [List.getElem?_map, h] <;> rfl
theorem SetQ.gw (R : SetQ P w s.heap a L es ep t) : ¬ t.gaveWay = true := by
  unfold SetTable.gaveWay
  rcases R.tab.mok with (e | e | e) | e <;> rw [e] <;> decide
/-- where the search for k begins -/
abbrev pb0 (t : SetTable) (h : Int) : SetTable.Probe := runAt t.mask (SetTable.bits h % (t.mask + 1)) (SetTable.bits h)
theorem nth_dummy (m : Nat) : ∀ (n : Nat) (p : SetTable.Probe), p.dummy = none → (nth m p n).dummy = none
  | 0, p, h => h
  | n + 1, p, h => nth_dummy m n (adv m p) (by unfold adv; split <;> exact h)
theorem seek_from (R : SetQ P w s.heap a L es ep t) {x : Addr} {k : List Key} (hx : IsQ P w s.heap k x) (hu : A.units < cLine) {K : Nat} (hKf : K < 10 * SetTable.turns t.mask)
    (hK : way t.mask (tH P w k) K ∉ t.place.toList) (hKb : ∀ c, c < K → way t.mask (tH P w k) c ∈ t.place.toList) {Q : SetFound → Shared → Prop}
    (hin : k ∈ L.map (·.2) → Q (.there none) s) (hout : k ∉ L.map (·.2) → Q (.free (way t.mask (tH P w k) K) false) s) :
    ∀ (f c : Nat) (stand : Option SetTable.Probe), stand.getD (t.probeStart (tH P w k)) = nth t.mask (pb0 t (tH P w k)) c → c ≤ K → K - c < f →
      (∀ (i : Nat) p, L[i]? = some p → p.2 = k → ∃ c', c ≤ c' ∧ c' < K ∧ t.place.toList[i]? = some (way t.mask (tH P w k) c')) →
      wpAny (model P w) A (setSearchFrom a (.ref x) (tH P w k) true f stand) Q E s
  | 0, c, stand, _, _, hf, _ => absurd hf (Nat.not_lt_zero _)
  | f + 1, c, stand, hst, hc, hf, hre => by
    obtain ⟨o, ho, hex, hd⟩ := R.ob
    rw [setSearchFrom_succ]
    refine wpAny_bind (wpAny_setState_of ho hd R.fits ?_)
    dsimp only
    refine wp_if_neg R.gw ?_
    try refine wpAny_bind (wpAny_pure ?_)
    have sh : ∀ q, nth t.mask (nth t.mask (pb0 t (tH P w k)) c) q = nth t.mask (pb0 t (tH P w k)) (c + q) := fun q => (nth_add t.mask c _ q).symm
    have e1 : ∀ q, (nth t.mask (nth t.mask (pb0 t (tH P w k)) c) q).j = way t.mask (tH P w k) (c + q) := fun q => congrArg SetTable.Probe.j (sh q)
    have spec := go_spec t R.tab.ris R.tab.dm (fun i => (es[i]?.map (·.1)).getD 0) (tH P w k) (10 * SetTable.turns t.mask) (K - c) _ (nth_dummy _ c _ rfl) (by omega)
      (fun q hq => by rw [e1]; exact hKb (c + q) (by omega)) (by rw [e1, show c + (K - c) = K by omega]; exact hK)
    have hashAt : ∀ (i : Nat) p, L[i]? = some p → (fun i => (es[i]?.map (·.1)).getD 0) i = tH P w p.2 := fun i p hp => by
      show (es[i]?.map (·.1)).getD 0 = _
      rw [R.entry hp] <;> rfl
    rcases spec with ⟨q, i, hq, hi, hh, hno, hpr⟩ | ⟨hno, hpr⟩
    · have hpr' : t.probe (fun i => (es[i]?.map (·.1)).getD 0) (tH P w k) (stand.getD (t.probeStart (tH P w k))) = some (.candidate (way t.mask (tH P w k) (c + q)) i (nth t.mask (pb0 t (tH P w k)) (c + (q + 1)))) := by
        rw [hst, ← e1, ← sh]
        exact hpr
      rw [hpr']
      dsimp only
      rw [e1] at hi
      have hil : i < L.length := by
        have h1 : i < t.place.toList.length := (List.getElem?_eq_some_iff.mp hi).1
        have h2 := R.tab.sz
        rw [List.length_map] at h2
        rw [Array.length_toList] at h1
        omega
      have hp : L[i]? = some L[i] := List.getElem?_eq_getElem hil
      generalize L[i] = p at hp
      have hmem : p ∈ L := List.mem_of_getElem? hp
      have rest : wpAny (model P w) A (searchRest a (.ref x) (tH P w k) true f es t (way t.mask (tH P w k) (c + q)) i (nth t.mask (pb0 t (tH P w k)) (c + (q + 1)))) Q E s := by
        unfold searchRest
        rw [R.entry hp]
        dsimp only
        refine wpAny_bind (wpAny_holding (wpAny_eqBool_tuple hu (R.tup p hmem) hx (wpAny_bind (wpAny_setState_of ho hd R.fits ?_))))
        dsimp only
        by_cases hkk : p.2 = k
        · exact wp_if_pos (by simp [hkk]) (wpAny_pure (hin (List.mem_map.mpr ⟨p, hmem, hkk⟩)))
        · refine wp_if_neg (by simp [hkk]) ?_
          try refine wpAny_bind (wpAny_pure ?_)
          rw [sameMem]
          dsimp only
          have hsl : t.slot (way t.mask (tH P w k) (c + q)) = .live i := slot_live R.tab.ris hi
          simp only [if_true, hsl, R.entry hp]
          refine wpAny_bind (wpAny_isSame_ref_self (wpAny_bind (wpAny_pure ?_)))
          simp only [if_true]
          refine wp_if_neg (by simp [hkk]) (seek_from R hx hu hKf hK hKb hin hout f (c + (q + 1)) _ rfl (by omega) (by omega) fun i0 p0 h0 hk0 => ?_)
          obtain ⟨c', a1, a2, a3⟩ := hre i0 p0 h0 hk0
          refine ⟨c', ?_, a2, a3⟩
          rcases Nat.lt_trichotomy c' (c + q) with z | z | z
          · exact absurd ((hashAt i0 p0 h0).trans (congrArg (tH P w) hk0)) (hno (c' - c) i0 (by omega) (by rw [e1, show c + (c' - c) = c' by omega]; exact a3))
          · exfalso
            rw [z] at a3
            have s0 := slot_live R.tab.ris a3
            rw [hsl] at s0
            injection s0 with s0
            rw [← s0, hp] at h0
            exact hkk ((congrArg Prod.snd (Option.some.inj h0)).trans hk0)
          · omega
      by_cases hl : t.led = true
      · refine wp_if_neg (by simp [hl]) ?_
        try refine wpAny_bind (wpAny_pure ?_)
        exact rest
      · refine wp_if_pos (by simp [hl]) (wpAny_bind (seen_q hx (fun y hy => ?_) ?_))
        · obtain ⟨e, he, ee⟩ := List.mem_map.mp hy
          have he1 : e ∈ es ∧ e.1 = tH P w k := by simpa using he
          have he2 : e ∈ es.toList := by simpa using he1.1
          rw [R.rows] at he2
          obtain ⟨p2, hp2, e2⟩ := List.mem_map.mp he2
          exact ⟨p2.2, p2.1, by rw [← ee, ← e2], R.tup p2 hp2⟩
        · refine wp_if_neg (by decide) ?_
          try refine wpAny_bind (wpAny_pure ?_)
          exact rest
    · have hpr' : t.probe (fun i => (es[i]?.map (·.1)).getD 0) (tH P w k) (stand.getD (t.probeStart (tH P w k))) = some (.empty (way t.mask (tH P w k) K) none) := by
        have e2 : way t.mask (tH P w k) K = (nth t.mask (nth t.mask (pb0 t (tH P w k)) c) (K - c)).j := by rw [e1, show c + (K - c) = K by omega]
        rw [hst, e2]
        exact hpr
      rw [hpr']
      dsimp only
      refine wpAny_pure (hout fun hm => ?_)
      obtain ⟨p0, h0, hk0⟩ := List.mem_map.mp hm
      obtain ⟨i0, hi0, e0⟩ := List.getElem_of_mem h0
      have h00 : L[i0]? = some p0 := by rw [List.getElem?_eq_getElem hi0, e0]
      obtain ⟨c', a1, a2, a3⟩ := hre i0 p0 h00 hk0
      exact hno (c' - c) i0 (by omega) (by rw [e1, show c + (c' - c) = c' by omega]; exact a3) ((hashAt i0 p0 h00).trans (congrArg (tH P w) hk0))
theorem seek_at (R : SetQ P w s.heap a L es ep t) {x : Addr} {k : List Key} (hx : IsQ P w s.heap k x) (hu : A.units < cLine) {Q : SetFound → Shared → Prop}
    (hin : k ∈ L.map (·.2) → Q (.there none) s)
    (hout : ∀ K, k ∉ L.map (·.2) → way t.mask (tH P w k) K ∉ t.place.toList → (∀ c, c < K → way t.mask (tH P w k) c ∈ t.place.toList) → Q (.free (way t.mask (tH P w k) K) false) s) :
    wpAny (model P w) A (setSearch a (.ref x) (tH P w k) true) Q E s := by
  have hroom := R.room
  obtain ⟨K, hKf, hK, hKb⟩ := R.tab.first (by rw [List.length_map]; omega) (tH P w k)
  have hbig : K < 100000 := by
    have : 10 * SetTable.turns t.mask ≤ 9000 := by
      unfold SetTable.turns
      rcases R.tab.mok with (e | e | e) | e <;> omega
    omega
  unfold setSearch
  refine seek_from R hx hu hKf hK hKb hin (fun hn => hout K hn hK hKb) 100000 0 none rfl (Nat.zero_le _) (by omega) fun i p hp hk => ?_
  have hi : (L.map fun p => tH P w p.2)[i]? = some (tH P w k) := by rw [List.getElem?_map, hp, ← hk] <;> rfl
  have hil : i < t.place.toList.length := by
    have h1 : i < L.length := (List.getElem?_eq_some_iff.mp hp).1
    have h2 := R.tab.sz
    rw [List.length_map] at h2
    rw [Array.length_toList]
    omega
  have hj := List.getElem?_eq_getElem hil
  obtain ⟨c, hc, e⟩ := R.tab.before hK hi hj
  exact ⟨c, Nat.zero_le _, hc, by rw [hj, e]⟩
theorem isQ_but {h h' : Heap} {k : List Key} {a b : Addr} {o : Obj} {es : Array (Int × Value)} {ep : Nat} {t : SetTable} (hb : IsQ P w h k b) (ho : h.get? a = some o) (hd : o.data = .set es ep t) (hs : Heap.SameBut a h h') : IsQ P w h' k b := by
  obtain ⟨o', its, n, ho', hc, hd', hi⟩ := hb
  refine ⟨o', its, n, (hs.2 b fun z => ?_).trans ho', hc, hd', hi⟩
  subst z
  obtain rfl : o' = o := Option.some.inj (ho'.symm.trans ho)
  rw [hd] at hd'
  cases hd'
theorem isQ_keep {h h' : Heap} {k : List Key} {b : Addr} (x : IsQ P w h k b) (hk : ∀ c o, h.get? c = some o → h'.get? c = some o) : IsQ P w h' k b := by
  obtain ⟨o, its, n, ho, r⟩ := x
  exact ⟨o, its, n, hk b o ho, r⟩
theorem pick_range {α : Type} (L : List α) : (List.range L.length).filterMap (fun i => L[i]?) = L := by
  have key : ∀ n, n ≤ L.length → (List.range n).filterMap (fun i => L[i]?) = L.take n := by
    intro n
    induction n with
    | zero => intro _; rfl
    | succ n ih =>
      intro hn
      rw [List.range_succ, List.filterMap_append, ih (by omega), List.take_succ, List.filterMap_cons, List.getElem?_eq_getElem hn]
      rfl
  rw [key _ (Nat.le_refl _), List.take_length]
theorem order_q (L : List (Addr × List Key)) (es : Array (Int × Value)) (ord : Array Nat) (hr : es.toList = rowQ P w L) (hp : ord.toList.Perm (List.range L.length)) :
    ∃ L2, (ord.filterMap (es[·]?)).toList = rowQ P w L2 ∧ L2.Perm L ∧ (L2.map fun p => tH P w p.2) = ord.toList.map fun i => (es.map (·.1)).getD i 0 := by
  have ent : ∀ i (h : i < L.length), es[i]? = some (tH P w (L[i]).2, Value.ref (L[i]).1) := fun i h => by
    rw [← Array.getElem?_toList, hr]
    unfold rowQ
    rw [List.getElem?_map, List.getElem?_eq_getElem h] <;> rfl
  have key : ∀ l : List Nat, (∀ i ∈ l, i < L.length) → l.filterMap (fun i => es[i]?) = rowQ P w (l.filterMap fun i => L[i]?) ∧ ((l.filterMap fun i => L[i]?).map fun p => tH P w p.2) = l.map fun i => (es.map (·.1)).getD i 0 := by
    intro l
    induction l with
    | nil => intro _; exact ⟨rfl, rfl⟩
    | cons i l ih =>
      intro hl
      have hi := hl i List.mem_cons_self
      obtain ⟨e1, e3⟩ := ih fun j hj => hl j (List.mem_cons_of_mem _ hj)
      have e5 : (es.map (·.1))[i]? = some (tH P w (L[i]).2) := by rw [Array.getElem?_map, ent i hi] <;> rfl
      rw [List.filterMap_cons_some (ent i hi), List.filterMap_cons_some (List.getElem?_eq_getElem hi), e1, List.map_cons, List.map_cons, e3]
      exact ⟨rfl, by simp [Array.getD_eq_getD_getElem?, e5]⟩
  obtain ⟨e1, e3⟩ := key ord.toList fun i hi => List.mem_range.mp (hp.mem_iff.mp hi)
  refine ⟨_, by first | (rw [Array.toList_filterMap]; exact e1) | simpa using e1, ?_, e3⟩
  have h1 := hp.filterMap fun i => L[i]?
  rwa [pick_range] at h1
theorem relay_q {o : Obj} (ho : s.heap.get? a = some o) (hex : o.ExactSet) (hd : o.data = .set es ep t) (hrows : es.toList = rowQ P w L) (hsz : t.place.size = es.size) (hdm : t.dummies = #[]) (hfl : es.size ≤ t.mask)
    (nd : (L.map (·.2)).Nodup) (tup : ∀ p ∈ L, IsQ P w s.heap p.2 p.1) (ld : w.params.followText "set-order" = true ∨ t.led = true) (few : L.length < 300) {wt M : Nat}
    (hw : SetTable.sizeAbove wt - 1 = M) (hM : MaskW M) (hw2 : SetTable.sizeAbove wt ≤ 512) (hn : L.length * 5 < M * 3) {Q : Unit → Shared → Prop}
    (hQ : ∀ h' L' es' ep' t', Heap.SameBut a s.heap h' → SetQ P w h' a L' es' ep' t' → L'.Perm L → Q () { s with heap := h' }) : wpAny (model P w) A (setRelay a wt) Q E s := by
  have hsl : es.size = L.length := rowQ_size hrows
  have hfits : t.fits es.size = true := by
    unfold SetTable.fits SetTable.fill
    rw [hdm, Bool.and_eq_true, beq_iff_eq, decide_eq_true_eq]
    show t.place.size = es.size ∧ t.place.size + 0 ≤ t.mask
    omega
  obtain ⟨t', ord, e, hp, T, em, el, ed⟩ := relaidW t (xs := es.map (·.1)) (wt := wt) hw hM (by rw [Array.size_map, hsl]; omega)
  rw [Array.size_map, hsl] at hp
  obtain ⟨L2, r1, r2, r3⟩ := order_q L es ord hrows hp
  rw [← r3] at T
  have hs2 : (ord.filterMap (es[·]?)).size = es.size := by rw [rowQ_size r1, r2.length_eq, hsl]
  rw [setRelay_eq]
  refine wpAny_bind (wpAny_setState_of ho hd hfits ?_)
  dsimp only
  refine wp_if_neg (by rw [sizeLine_eq]; omega) ?_
  try refine wpAny_bind (wpAny_pure ?_)
  rw [e]
  dsimp only
  refine wpAny_bind (wp_if_neg (by rw [hs2]; simp) ?_)
  try refine wpAny_bind (wpAny_pure ?_)
  refine wpAny_pure ?_
  dsimp only
  refine wpAny_storeSet_of ho hd ?_ (by rw [hs2, hsl, sizeLine_eq]; omega)
  have sb : Heap.SameBut a s.heap (s.heap.update a (Obj.putSet (ord.filterMap (es[·]?)) t')) := Heap.SameBut.update ..
  exact hQ _ L2 (ord.filterMap (es[·]?)) (ep + 1) t' sb ⟨⟨_, store_at ho hd, ⟨hex.1, hex.2.1, hex.2.2⟩, rfl⟩, r1, T, (r2.map (·.2)).nodup_iff.mpr nd, fun p hpm => isQ_but (tup p (r2.mem_iff.mp hpm)) ho hd sb, by rw [el]; exact ld, by rw [r2.length_eq, em]; exact hn, by rw [r2.length_eq]; exact few⟩ r2
theorem tab_unplain {t : SetTable} {hs : List Int} (T : TabW t hs) (b : Bool) : TabW (if b = true then t else { t with plain := false }) hs := by
  cases b
  · exact ⟨T.ris, T.dm, T.sz, T.mok, T.bd, T.met⟩
  · exact T
theorem size_w : SetTable.sizeAbove (SetTable.grown 77) = 512 := by decide +kernel
theorem add_q (R : SetQ P w s.heap a L es ep t) {x : Addr} {k : List Key} (hx : IsQ P w s.heap k x) (hu : A.units < cLine) (hfew : L.length + 1 < 300) {Q : Bool → Shared → Prop}
    (hQ : ∀ b h' L' es' ep' t', Heap.SameBut a s.heap h' → SetQ P w h' a L' es' ep' t' → (k ∈ L.map (·.2) → L' = L) → (k ∉ L.map (·.2) → L'.Perm ((x, k) :: L)) → Q b { s with heap := h' }) :
    wpAny (model P w) A (setAddHashed a (.ref x) (tH P w k)) Q E s := by
  obtain ⟨o, ho, hex, hd⟩ := R.ob
  have hsl := R.size
  have hroom := R.room
  unfold setAddHashed
  refine wpAny_holding ?_
  rw [show (100000 : Nat) = 99999 + 1 from rfl, setAddHashedIn_succ]
  refine wpAny_bind (wpAny_setState_of ho hd R.fits ?_)
  dsimp only
  refine wp_if_neg (by simp [byScan, Value.scannable]) ?_
  try refine wpAny_bind (wpAny_pure ?_)
  refine wpAny_bind (seek_at R hx hu (fun hm => ?_) fun K hm hK hb => ?_)
  · exact wpAny_pure (hQ false s.heap L es ep t (Heap.SameBut.refl a s.heap) R (fun _ => rfl) fun z => absurd hm z)
  · dsimp only
    refine wpAny_bind (wpAny_setState_of ho hd R.fits ?_)
    dsimp only
    obtain ⟨q1, q2, q3, q4, q5, q9⟩ := R.tab.put hK hb
    generalize t.put (way t.mask (tH P w k) K) = pt at q1 q3 q4 q5 q9 ⊢
    obtain ⟨t1, pp⟩ := pt
    dsimp only at q1 q3 q4 q5 q9 ⊢
    subst q1
    have main : ∀ byV : Bool, wpAny (model P w) A (do
        storeSet a (SetTable.insertAt es (SetTable.below t.place (way t.mask (tH P w k) K)) (tH P w k, Value.ref x)) (if byV = true then t1 else { t1 with plain := false })
        if (!false && (if byV = true then t1 else { t1 with plain := false }).tooFull) = true then do
            setRelay a (SetTable.grown (es.size + 1))
            pure true
          else pure true) Q E s := fun byV => by
      have hin : (SetTable.insertAt es (SetTable.below t.place (way t.mask (tH P w k) K)) (tH P w k, Value.ref x)).toList = rowQ P w (L.take (SetTable.below t.place (way t.mask (tH P w k) K)) ++ (x, k) :: L.drop (SetTable.below t.place (way t.mask (tH P w k) K))) := by
        rw [SetTable.toList_insertAt, R.rows]
        unfold rowQ
        rw [List.map_append, List.map_cons, List.map_take, List.map_drop]
      generalize SetTable.below t.place (way t.mask (tH P w k) K) = p at q2 q3 hin ⊢
      have pm : (L.take p ++ (x, k) :: L.drop p).Perm ((x, k) :: L) := by
        have h : (L.take p ++ (x, k) :: L.drop p).Perm ((x, k) :: (L.take p ++ L.drop p)) := List.perm_middle
        rwa [List.take_append_drop] at h
      have hhs : (L.take p ++ (x, k) :: L.drop p).map (fun p => tH P w p.2) = (L.map fun p => tH P w p.2).take p ++ tH P w k :: (L.map fun p => tH P w p.2).drop p := by rw [List.map_append, List.map_cons, List.map_take, List.map_drop]
      rw [← hhs] at q3
      have hlen := pm.length_eq
      rw [List.length_cons] at hlen
      have nd1 : ((L.take p ++ (x, k) :: L.drop p).map (·.2)).Nodup := (pm.map (·.2)).nodup_iff.mpr (List.nodup_cons.mpr ⟨hm, R.nd⟩)
      have hes := rowQ_size hin
      rw [hlen] at hes
      generalize SetTable.insertAt es p (tH P w k, Value.ref x) = es1 at hin hes ⊢
      generalize L.take p ++ (x, k) :: L.drop p = L1 at pm hlen q3 nd1 hin
      have Tn := tab_unplain q3 byV
      have m9 : (if byV = true then t1 else { t1 with plain := false }).fill = L.length + 1 := by rw [List.length_map] at q9; cases byV <;> exact q9
      have m4 : (if byV = true then t1 else { t1 with plain := false }).mask = t.mask := by cases byV <;> exact q4
      have m5 : (if byV = true then t1 else { t1 with plain := false }).led = t.led := by cases byV <;> exact q5
      generalize (if byV = true then t1 else { t1 with plain := false }) = t2 at Tn m9 m4 m5 ⊢
      refine wpAny_bind (wpAny_storeSet_of ho hd ?_ (by rw [hes, sizeLine_eq]; omega))
      have sb : Heap.SameBut a s.heap (s.heap.update a (Obj.putSet es1 t2)) := Heap.SameBut.update ..
      have ho1 := store_at (es' := es1) (t' := t2) ho hd
      generalize s.heap.update a (Obj.putSet es1 t2) = h1 at sb ho1 ⊢
      have tup1 : ∀ p ∈ L1, IsQ P w h1 p.2 p.1 := fun p hp => by
        rcases List.mem_cons.mp (pm.mem_iff.mp hp) with e | hp
        · rw [e]; exact isQ_but hx ho hd sb
        · exact isQ_but (R.tup p hp) ho hd sb
      have ld1 : w.params.followText "set-order" = true ∨ t2.led = true := by rw [m5]; exact R.led
      by_cases hf : t2.tooFull = true
      · refine wp_if_pos (by simp [hf]) (wpAny_bind ?_)
        have hfull : (L.length + 1) * 5 ≥ t2.mask * 3 := by
          have h := hf
          unfold SetTable.tooFull at h
          rwa [decide_eq_true_eq, m9] at h
        rw [hsl]
        have hsz1 : t2.place.size = es1.size := by
          have h := Tn.sz
          rw [List.length_map, hlen] at h
          rw [h, hes]
        have two : (t.mask = 7 ∧ L.length = 4) ∨ (t.mask = 31 ∧ L.length = 18) ∨ (t.mask = 127 ∧ L.length = 76) := by
          rw [m4] at hfull
          rcases R.tab.mok with (e | e | e) | e <;> rw [e] at hfull hroom
          · exact .inl ⟨e, by omega⟩
          · exact .inr (.inl ⟨e, by omega⟩)
          · exact .inr (.inr ⟨e, by omega⟩)
          · omega
        have go : ∀ M, SetTable.sizeAbove (SetTable.grown (L.length + 1)) - 1 = M → MaskW M → SetTable.sizeAbove (SetTable.grown (L.length + 1)) ≤ 512 → (L.length + 1) * 5 < M * 3 →
            wpAny (model P w) A (setRelay a (SetTable.grown (L.length + 1))) (fun _ s' => wpAny (model P w) A (pure true) Q E s') E { s with heap := h1 } := fun M y1 y2 y3 y4 =>
          relay_q (s := { s with heap := h1 }) ho1 ⟨hex.1, hex.2.1, hex.2.2⟩ rfl hin hsz1 Tn.dm (by rw [hes, m4]; rcases two with ⟨e, e2⟩ | ⟨e, e2⟩ | ⟨e, e2⟩ <;> omega) nd1 tup1 ld1 (by omega) y1 y2 y3 (by rw [hlen]; exact y4)
            fun h2 L2 es2 ep2 t3 sb2 R2 pm2 => wpAny_pure (hQ true h2 L2 es2 ep2 t3 (sb.trans sb2) R2 (fun z => absurd z hm) fun _ => pm2.trans pm)
        rcases two with ⟨_, e2⟩ | ⟨_, e2⟩ | ⟨_, e2⟩
        · exact go 31 (by rw [e2, size_20]) (.inl (.inr (.inl rfl))) (by rw [e2, size_20]; decide) (by omega)
        · exact go 127 (by rw [e2, size_76]) (.inl (.inr (.inr rfl))) (by rw [e2, size_76]; decide) (by omega)
        · exact go 511 (by rw [e2, size_w]) (.inr rfl) (by rw [e2, size_w]; decide) (by omega)
      · refine wp_if_neg (by simp [hf]) (wpAny_pure (hQ true h1 L1 es1 (ep + 1) t2 sb ⟨⟨_, ho1, ⟨hex.1, hex.2.1, hex.2.2⟩, rfl⟩, hin, Tn, nd1, tup1, ld1, ?_, by omega⟩ (fun z => absurd z hm) fun _ => pm))
        have h := hf
        unfold SetTable.tooFull at h
        rw [decide_eq_true_eq, m9] at h
        rw [hlen]
        omega
    by_cases hp1 : t1.plain = true
    · first
        | exact wpAny_bind (wp_if_pos hp1 (hashBy_q hx fun r => main r))
        | exact wp_if_pos hp1 (wpAny_bind (hashBy_q hx fun r => main r))
    · first
        | exact wpAny_bind (wp_if_neg hp1 (wpAny_pure (main true)))
        | exact wp_if_neg hp1 (wpAny_bind (wpAny_pure (main true)))
end
end Rl

/-! sorted(set(..)), len(set(..)). -/
namespace Rl
open PySem PySem.Spec PyProof.Rows L2 Dl
open PySem.W
/-- the set at a; vs its values, in some order -/
def SetX (w : World) (h : Heap) (a : Addr) (vs : List Value) : Prop := ∃ o es ep t, h.get? a = some o ∧ o.ExactSet ∧ o.data = .set es ep t ∧ es.toList.map (·.2) = vs ∧ es.size < scanBound ∧ t.fits es.size = true ∧ Ris t.place.toList ∧ (w.params.followText "set-order" = true ∨ t.led = true)
def setXO (w : World) (a : Addr) (vs : List Value) : HO := .ext fun h => SetX w h a vs
theorem SetX.stay {w : World} {h h' : Heap} {a : Addr} {vs : List Value} (R : SetX w h a vs) (k : ∀ o, h.get? a = some o → h'.get? a = some o) : SetX w h' a vs := by
  obtain ⟨o, es, ep, t, ho, r⟩ := R
  exact ⟨o, es, ep, t, k o ho, r⟩
theorem setXO_new {P : Program} {w : World} {H : Hp} {h : Heap} {a : Addr} {vs : List Value} (R : SetX w h a vs) : ObjOk P w H h a (setXO w a vs) := by
  have ⟨o, _, _, _, ho, _⟩ := R
  exact ⟨R, ⟨o, ho⟩, fun h1 h2 p k => SetX.stay p k⟩
theorem SetS.x {P : Program} {w : World} {h : Heap} {a : Addr} {L : List (Value × Key)} (R : SetS P w h a L) : SetX w h a (L.map (·.1)) := by
  obtain ⟨o, es, ep, t, ho, hex, hd, rows, hb, hf, hr, hl⟩ := R.ex
  exact ⟨o, es, ep, t, ho, hex, hd, by rw [rows, List.map_map]; rfl, hb, hf, hr, hl⟩
theorem SetQ.x {P : Program} {w : World} {h : Heap} {a : Addr} {L : List (Addr × List Key)} {es : Array (Int × Value)} {ep : Nat} {t : SetTable} (R : SetQ P w h a L es ep t) : SetX w h a (L.map fun p => .ref p.1) := by
  obtain ⟨o, ho, hex, hd⟩ := R.ob
  have h1 := rowQ_size R.rows
  have h2 := R.few
  refine ⟨o, es, ep, t, ho, hex, hd, ?_, by unfold scanBound; omega, R.fits, R.tab.ris, R.led⟩
  rw [R.rows]
  unfold rowQ
  rw [List.map_map]
  rfl
theorem scan_kv {k : Key} {u : Value} (r : RelV (kV k) u) : u.scannable = true := by
  cases k <;> obtain ⟨t, rfl⟩ := r <;> rfl
section
variable {P : Program} {w : World} {A : Around} {E : Value → Shared → Prop} {s : Shared}
theorem zip_at {α β : Type} {xs : List α} {ys : List β} {i : Nat} {x : α} (h : xs[i]? = some x) (hl : xs.length = ys.length) : ∃ y, ys[i]? = some y ∧ (xs.zip ys)[i]? = some (x, y) := by
  have hi := (List.getElem?_eq_some_iff.mp h).1
  refine ⟨ys[i]'(by omega), List.getElem?_eq_getElem _, ?_⟩
  rw [List.getElem?_zip_eq_some]
  exact ⟨h, List.getElem?_eq_getElem _⟩
theorem take_add {α : Type} {l : List α} {i : Nat} {x : α} (h : l[i]? = some x) : l.take (i + 1) = l.take i ++ [x] := by rw [List.take_succ, h]; rfl
theorem set_keys {l : Addr} {its : List Value} {ks : List Key} {Q : Value → Shared → Prop} (rv : Vals (ks.map kV) its) (hs : s.heap.IsList l its.toArray ∨ s.heap.IsTuple l its.toArray) (hh : A.handled = none) (hk : ks.length < 3000)
    (hQ : ∀ h' tk L, SetS P w h' s.heap.objs.size L → GotK (its.zip ks) L → (∀ b o, s.heap.get? b = some o → h'.get? b = some o) → Q (.ref s.heap.objs.size) { s with heap := h', toks := tk }) : wpAny (model P w) A (call (.type "set") [.ref l]) Q E s := by
  have hlen : its.length = ks.length := by have := rv.length; rw [List.length_map] at this; omega
  have hJ : ∀ i h h', (∃ L, SetS P w h s.heap.objs.size L ∧ GotK ((its.zip ks).take i) L) → (∀ b o, b ≠ s.heap.objs.size + 1 → h.get? b = some o → h'.get? b = some o) → ∃ L, SetS P w h' s.heap.objs.size L ∧ GotK ((its.zip ks).take i) L :=
    fun i h h' ⟨L, R, g⟩ k => ⟨L, R.stay fun o => k _ o (Nat.ne_of_lt (Nat.lt_succ_self _)), g⟩
  have h0 : ∀ h' : Heap, (∀ b o, s.heap.get? b = some o → h'.get? b = some o) → h'.get? s.heap.objs.size = some (nSet w) → ∃ L, SetS P w h' s.heap.objs.size L ∧ GotK ((its.zip ks).take 0) L :=
    fun h' _ e => ⟨[], setS_new e, GotK.zero⟩
  have hA : ∀ i v (s1 : Shared) (B : Around) (Q : Bool → Shared → Prop) (E' : Value → Shared → Prop), B.units ≤ A.units + 9 → its.toArray[i]? = some v → (∃ L, SetS P w s1.heap s.heap.objs.size L ∧ GotK ((its.zip ks).take i) L) →
      (∀ b h' tk, s1.toks ≤ tk → Heap.SameBut s.heap.objs.size s1.heap h' → (∃ L, SetS P w h' s.heap.objs.size L ∧ GotK ((its.zip ks).take (i + 1)) L) → Q b { s1 with heap := h', toks := tk }) → wpAny (model P w) B (setAdd s.heap.objs.size v) Q E' s1 := by
    intro i v s1 B Q E' _ hv ⟨L, R, g⟩ q
    rw [List.getElem?_toArray] at hv
    obtain ⟨k, hk1, hz⟩ := zip_at hv hlen
    obtain ⟨u, hu, ru⟩ := Vals.get rv (show (ks.map kV)[i]? = some (kV k) by rw [List.getElem?_map, hk1]; rfl)
    obtain rfl : u = v := Option.some.inj (hu.symm.trans hv)
    unfold setAdd
    refine wpAny_holding (wpAny_bind ((mixKind P w).pyHash (kV_is ru) ?_))
    have hl2 := g.len
    rw [List.length_take, List.length_zip] at hl2
    refine setS_add (s := { s1 with toks := s1.toks + 1 }) R (kV_is ru) (scan_kv ru) (by unfold scanBound; omega) fun b h' L' sb R' c1 c2 => q b h' _ (Nat.le_succ _) sb ⟨L', R', ?_⟩
    rw [take_add hz]
    rcases Classical.em (k ∈ L.map (·.2)) with z | z
    · rw [c1 z]; exact g.stay z
    · exact g.grow (c2 z)
  have fin : ∀ (h' : Heap) (tk : Nat), (∃ L, SetS P w h' s.heap.objs.size L ∧ GotK ((its.zip ks).take its.toArray.size) L) → (∀ b o, s.heap.get? b = some o → h'.get? b = some o) → Q (.ref s.heap.objs.size) { s with heap := h', toks := tk } := by
    intro h' tk ⟨L, R, g⟩ k
    rw [List.size_toArray, List.take_of_length_le (by rw [List.length_zip]; omega)] at g
    exact hQ h' tk L R g k
  rcases hs with hs | hs
  · exact call_set_list hh hs _ hJ h0 hA fin
  · exact call_set_tuple hh hs _ hJ h0 hA fin
theorem set_tups {l : Addr} {ks : List (Addr × List Key)} {Q : Value → Shared → Prop} (hs : s.heap.IsList l (ks.map fun p => Value.ref p.1).toArray ∨ s.heap.IsTuple l (ks.map fun p => Value.ref p.1).toArray) (hq : ∀ p ∈ ks, IsQ P w s.heap p.2 p.1) (hh : A.handled = none) (hu : A.units + 10 < cLine) (hk : ks.length < 299)
    (hQ : ∀ h' tk L es ep t, SetQ P w h' s.heap.objs.size L es ep t → GotK ks L → (∀ b o, s.heap.get? b = some o → h'.get? b = some o) → Q (.ref s.heap.objs.size) { s with heap := h', toks := tk }) : wpAny (model P w) A (call (.type "set") [.ref l]) Q E s := by
  have lt : ∀ p ∈ ks, p.1 < s.heap.objs.size := fun p hp => by obtain ⟨o, _, _, ho, _⟩ := hq p hp; exact Heap.lt_size ho
  have hJ : ∀ i h h', ((∃ L es ep t, SetQ P w h s.heap.objs.size L es ep t ∧ GotK (ks.take i) L) ∧ ∀ p ∈ ks, IsQ P w h p.2 p.1) → (∀ b o, b ≠ s.heap.objs.size + 1 → h.get? b = some o → h'.get? b = some o) →
      ((∃ L es ep t, SetQ P w h' s.heap.objs.size L es ep t ∧ GotK (ks.take i) L) ∧ ∀ p ∈ ks, IsQ P w h' p.2 p.1) := fun i h h' ⟨⟨L, es, ep, t, R, g⟩, al⟩ k => by
    have al' : ∀ p ∈ ks, IsQ P w h' p.2 p.1 := fun p hp => by
      obtain ⟨o, its, n, ho, r⟩ := al p hp
      exact ⟨o, its, n, k _ _ (Nat.ne_of_lt (Nat.lt_succ_of_lt (lt p hp))) ho, r⟩
    obtain ⟨o, ho, r⟩ := R.ob
    exact ⟨⟨L, es, ep, t, ⟨⟨o, k _ _ (Nat.ne_of_lt (Nat.lt_succ_self _)) ho, r⟩, R.rows, R.tab, R.nd, fun p hp => al' p (List.mem_of_mem_take (g.sub p hp)), R.led, R.room, R.few⟩, g⟩, al'⟩
  have h0 : ∀ h' : Heap, (∀ b o, s.heap.get? b = some o → h'.get? b = some o) → h'.get? s.heap.objs.size = some (nSet w) → ((∃ L es ep t, SetQ P w h' s.heap.objs.size L es ep t ∧ GotK (ks.take 0) L) ∧ ∀ p ∈ ks, IsQ P w h' p.2 p.1) :=
    fun h' k e => ⟨⟨[], _, _, _, ⟨⟨_, e, ⟨rfl, rfl, rfl⟩, rfl⟩, rfl, ⟨List.Pairwise.nil, rfl, rfl, .inl (.inl rfl), fun x hx => (by cases hx), fun x hx => (by cases hx)⟩, List.nodup_nil, fun p hp => (by cases hp), by
      show _ ∨ (!w.params.followText "set-order") = true
      cases w.params.followText "set-order"
      · exact .inr rfl
      · exact .inl rfl, by show 0 * 5 < 7 * 3; decide, by show 0 < 300; decide⟩, GotK.zero⟩, fun p hp => isQ_keep (hq p hp) k⟩
  have hA : ∀ i v (s1 : Shared) (B : Around) (Q : Bool → Shared → Prop) (E' : Value → Shared → Prop), B.units ≤ A.units + 9 → (ks.map fun p => Value.ref p.1).toArray[i]? = some v → ((∃ L es ep t, SetQ P w s1.heap s.heap.objs.size L es ep t ∧ GotK (ks.take i) L) ∧ ∀ p ∈ ks, IsQ P w s1.heap p.2 p.1) →
      (∀ b h' tk, s1.toks ≤ tk → Heap.SameBut s.heap.objs.size s1.heap h' → ((∃ L es ep t, SetQ P w h' s.heap.objs.size L es ep t ∧ GotK (ks.take (i + 1)) L) ∧ ∀ p ∈ ks, IsQ P w h' p.2 p.1) → Q b { s1 with heap := h', toks := tk }) → wpAny (model P w) B (setAdd s.heap.objs.size v) Q E' s1 := by
    intro i v s1 B Q E' hB hv ⟨⟨L, es, ep, t, R, g⟩, al⟩ q
    rw [List.getElem?_toArray, List.getElem?_map] at hv
    cases hp : ks[i]? with
    | none => rw [hp] at hv; cases hv
    | some p =>
      rw [hp] at hv
      cases hv
      have hx := al p (List.mem_of_getElem? hp)
      have hl2 := g.len
      rw [List.length_take] at hl2
      unfold setAdd
      refine wpAny_holding (wpAny_bind (wpAny_pyHash_tuple (knd := mixKind P w) (by omega) hx ?_))
      obtain ⟨o, ho, hex, hd⟩ := R.ob
      refine add_q (s := { s1 with toks := s1.toks + (p.2.length + 1) }) R hx (by omega) (by omega) fun b h' L' es' ep' t' sb R' c1 c2 => q b h' _ (Nat.le_add_right _ _) sb ⟨⟨L', es', ep', t', R', ?_⟩, fun p hp => isQ_but (al p hp) ho hd sb⟩
      rw [take_add hp]
      rcases Classical.em (p.2 ∈ L.map (·.2)) with z | z
      · rw [c1 z]; exact g.stay z
      · exact g.grow (c2 z)
  have fin : ∀ (h' : Heap) (tk : Nat), ((∃ L es ep t, SetQ P w h' s.heap.objs.size L es ep t ∧ GotK (ks.take (ks.map fun p => Value.ref p.1).toArray.size) L) ∧ ∀ p ∈ ks, IsQ P w h' p.2 p.1) → (∀ b o, s.heap.get? b = some o → h'.get? b = some o) → Q (.ref s.heap.objs.size) { s with heap := h', toks := tk } := by
    intro h' tk ⟨⟨L, es, ep, t, R, g⟩, al⟩ k
    rw [List.size_toArray, List.length_map, List.take_length] at g
    exact hQ h' tk L es ep t R g k
  rcases hs with hs | hs
  · exact call_set_list hh hs _ hJ h0 hA fin
  · exact call_set_tuple hh hs _ hJ h0 hA fin
theorem each_perm {β : Type} {R : Value → β → Prop} {us vs : List Value} (p : vs.Perm us) : ∀ {zs : List β}, EachIs R us zs → ∃ zs', zs'.Perm zs ∧ EachIs R vs zs' := by
  induction p with
  | nil => intro zs h; exact ⟨zs, List.Perm.refl _, h⟩
  | cons x _ ih =>
    intro zs h
    cases h with
    | cons r t =>
      obtain ⟨z, p, q⟩ := ih t
      exact ⟨_, p.cons _, .cons r q⟩
  | swap x y l =>
    intro zs h
    cases h with
    | cons r t =>
      cases t with
      | cons r2 t => exact ⟨_, List.Perm.swap .., .cons r2 (.cons r t)⟩
  | trans _ _ ih1 ih2 =>
    intro zs h
    obtain ⟨z2, p2, q2⟩ := ih2 h
    obtain ⟨z1, p1, q1⟩ := ih1 q2
    exact ⟨z1, p1.trans p2, q1⟩
end
section
variable {X : Cx}
/-- set(xs), xs a list or a tuple of ints and texts -/
def rSetK (K : PySem.W.Frag) (w : World) : List V → Hp → VK → Prop := fun xs H Q => ∃ (l : Addr) (ks : List Key), xs = [.ref l] ∧ (SqL K H l (ks.map kV) ∨ SqT K H l (ks.map kV)) ∧ ks.length < 3000 ∧
  ∀ a (L : List (Value × Key)), H a = none → (∀ p ∈ L, RelV (kV p.2) p.1) → (L.map (·.2)).Nodup → (∀ p ∈ L, p.2 ∈ ks) → (∀ k ∈ ks, k ∈ L.map (·.2)) → Q (.ref a) (upd H a (setXO w a (L.map (·.1))))
theorem zip_vals : ∀ {xs : List V} {us : List Value} {ks : List Key}, Vals xs us → xs = ks.map kV → ∀ p ∈ us.zip ks, RelV (kV p.2) p.1
  | _, _, [], .nil, _, p, hp => by cases hp
  | _, _, k :: ks, .cons r t, e, p, hp => by
    injection e with e1 e2
    rcases List.mem_cons.mp hp with z | z
    · rw [z, ← e1]; exact r
    · exact zip_vals t e2 p z
theorem seq_of {pins : List (Addr × Obj)} {σ : L2.St} {H : Hp} {s : Shared} {l : Addr} {xs : List V} (I : Inv X pins σ H s) (hl : SqL X.K H l xs ∨ SqT X.K H l xs) : ∃ its : List Value, Vals xs its ∧ (s.heap.IsList l its.toArray ∨ s.heap.IsTuple l its.toArray) := by
  rcases hl with hl | hl
  · obtain ⟨its, rv, pl, _⟩ := I.list hl
    exact ⟨its, rv, .inl pl.isList⟩
  · obtain ⟨its, rv, pl, _⟩ := I.tuple hl
    exact ⟨its, rv, .inr pl⟩
theorem cr_setK (hc : X.calm = true) : CallR X (.type "set") (rSetK X.K X.w) := by
  intro pins s σ H xs us Q I r h
  obtain ⟨l, ks, rfl, hl, hk, q⟩ := h
  rw [Vals.ref1 r]
  obtain ⟨its, rv, hs⟩ := seq_of I hl
  have hn : H s.heap.objs.size = none := I.hok.fresh (Nat.le_refl _)
  have hlen : its.length = ks.length := by have := rv.length; rw [List.length_map] at this; omega
  refine set_keys rv hs (I.ok.hd hc) hk fun h' tk L R g k => ?_
  refine ⟨.ref s.heap.objs.size, upd H s.heap.objs.size (setXO X.w s.heap.objs.size (L.map (·.1))), I.laid (t' := tk) k (Nat.le_refl _) (setXO_new R.x), rfl, q _ L hn (fun p hp => zip_vals rv rfl p (g.sub p hp)) R.nd (fun p hp => (List.of_mem_zip (g.sub p hp)).2) fun k0 hk0 => ?_⟩
  obtain ⟨i, hi, e⟩ := List.getElem_of_mem hk0
  have hm : (its[i]'(by omega), k0) ∈ its.zip ks := List.mem_of_getElem? (i := i) (by
    rw [List.getElem?_zip_eq_some]
    exact ⟨List.getElem?_eq_getElem _, by rw [List.getElem?_eq_getElem hi, e]⟩)
  exact g.all _ hm
/-- set(xs), xs a list or a tuple of tuples of ints and texts -/
def rSetQ (K : PySem.W.Frag) (w : World) : List V → Hp → VK → Prop := fun xs H Q => ∃ (l : Addr) (ks : List (Addr × List Key)), xs = [.ref l] ∧ (SqL K H l (ks.map fun p => V.ref p.1) ∨ SqT K H l (ks.map fun p => V.ref p.1)) ∧ (∀ p ∈ ks, SqT K H p.1 (p.2.map kV)) ∧ ks.length < 299 ∧
  ∀ a (L : List (Addr × List Key)), H a = none → (L.map (·.2)).Nodup → (∀ p ∈ L, p ∈ ks) → (∀ p ∈ ks, p.2 ∈ L.map (·.2)) → Q (.ref a) (upd H a (setXO w a (L.map fun p => .ref p.1)))
theorem items_vals {P : Program} {w : World} : ∀ {k : List Key} {us : List Value}, Vals (k.map kV) us → PySem.ItemsAre (mixKind P w) k us
  | [], _, .nil => .nil
  | n :: k, _, .cons r t => .cons (kV_is r) (items_vals t)
theorem refs_vals {κ : Type} : ∀ {ks : List (Addr × κ)} {us : List Value}, Vals (ks.map fun p => V.ref p.1) us → us = ks.map fun p => Value.ref p.1
  | [], _, .nil => rfl
  | p :: ks, _, .cons r t => by
    cases r
    rw [refs_vals t] <;> rfl
theorem vals_refs {κ : Type} : ∀ (ks : List (Addr × κ)), Vals (ks.map fun p => V.ref p.1) (ks.map fun p => Value.ref p.1)
  | [] => .nil
  | p :: ks => .cons rfl (vals_refs ks)
theorem isQ_of {pins : List (Addr × Obj)} {σ : L2.St} {H : Hp} {s : Shared} {b : Addr} {k : List Key} (I : Inv X pins σ H s) (h : SqT X.K H b (k.map kV)) : IsQ X.prog X.w s.heap k b := by
  obtain ⟨its, r, ⟨o, ho, hc, n, hd⟩, _⟩ := I.tuple h
  exact ⟨o, its.toArray, n, ho, hc, hd, by simpa using items_vals r⟩
theorem cr_setQ (hc : X.calm = true) (hu : X.A.units + 10 < cLine) : CallR X (.type "set") (rSetQ X.K X.w) := by
  intro pins s σ H xs us Q I r h
  obtain ⟨l, ks, rfl, hl, hk, hf, q⟩ := h
  rw [Vals.ref1 r]
  obtain ⟨its, rv, hs⟩ := seq_of I hl
  cases refs_vals rv
  have hn : H s.heap.objs.size = none := I.hok.fresh (Nat.le_refl _)
  refine set_tups (P := X.prog) (w := X.w) hs (fun p hp => isQ_of I (hk p hp)) (I.ok.hd hc) hu hf fun h' tk L es ep t R g k => ?_
  exact ⟨.ref s.heap.objs.size, upd H s.heap.objs.size (setXO X.w s.heap.objs.size _), I.laid (t' := tk) k (Nat.le_refl _) (setXO_new R.x), rfl, q _ L hn R.nd g.sub g.all⟩
/-- sorted(set) -/
def rSortX (K : PySem.W.Frag) (w : World) : List V → Hp → VK → Prop := fun vs H Q => ∃ (a : Addr) (us : List Value) (zs : List (V × PyData)), vs = [.ref a] ∧ H a = some (setXO w a us) ∧ Vals (zs.map (·.1)) us ∧ L2.DpAll K H (zs.map (·.1)) (zs.map (·.2)) ∧ AllAlike (zs.map (·.2)) ∧ Sortable (zs.map (·.2)) ∧ (∀ d ∈ zs.map (·.2), PyData.depth d ≤ 64) ∧
  ∀ (p : Addr) (zs' : List (V × PyData)), H p = none → zs'.Perm zs → Q (.ref p) (upd H p (.lst ((zs'.mergeSort (dataLe false Prod.snd)).map (·.1))))
theorem each_zs : ∀ {zs : List (V × PyData)} {us : List Value}, Vals (zs.map (·.1)) us → EachIs (fun u (b : V × PyData) => RelV b.1 u) us zs
  | [], _, .nil => .nil
  | _ :: _, _, .cons r t => .cons r (each_zs t)
theorem reads_zs {pins : List (Addr × Obj)} {σ : L2.St} {H : Hp} {s : Shared} (I : Inv X pins σ H s) {zs : List (V × PyData)} (h : L2.DpAll X.K H (zs.map (·.1)) (zs.map (·.2))) : ∀ b ∈ zs, L2.Dp X.K H b.1 b.2 := by
  induction zs with
  | nil => intro b hb; cases hb
  | cons z zs ih =>
    intro b hb
    cases h with
    | cons p q =>
      rcases List.mem_cons.mp hb with e | e
      · rw [e]; exact p
      · exact ih q b e
theorem each_both {α β : Type} {R S : α → β → Prop} : ∀ {us : List α} {zs : List β}, EachIs R us zs → (∀ u b, b ∈ zs → R u b → S u b) → EachIs S us zs
  | [], [], .nil, _ => .nil
  | _ :: _, _ :: _, .cons r t, h => .cons (h _ _ List.mem_cons_self r) (each_both t fun u b hb => h u b (List.mem_cons_of_mem _ hb))
theorem cr_sortX (hc : X.calm = true) (hun : X.A.units + 200 < cLine) : CallR X (.builtin "sorted") (rSortX X.K X.w) := by
  intro pins s σ H vs us Q I r h
  obtain ⟨a, ws, zs, rfl, ha, hv, hd, hal, hk, hdep, q⟩ := h
  rw [Vals.ref1 r]
  have SX : SetX X.w s.heap a ws := (I.hok a _ ha).1
  obtain ⟨o, es, ep, t, ho, hex, hdt, hes, hb, hf, hr, hl⟩ := SX
  have hzl : zs.length ≤ sizeLine := by
    have h1 := hv.length
    have h2 := congrArg List.length hes
    rw [List.length_map, Array.length_toList] at h2
    rw [List.length_map] at h1
    rw [sizeLine_eq]
    unfold scanBound at hb
    omega
  refine sorted_col (fun bs' => True) (R := fun u (b : V × PyData) => RelV b.1 u) (enc := Prod.snd) (bs := zs) hal hk hzl (fun b hb => by have := hdep b.2 (List.mem_map.mpr ⟨b, hb, rfl⟩); omega) (fun Q' hq => ?_) (fun s' p out c bs' k g o1 hp hg pm ez eo => ?_)
  · refine collect_set (A := X.A.in1) (I.ok.hd hc) ⟨o, ho, hex.1, hdt⟩ hf hb hr hl fun s1 vs k1 _ g1 o1 pm => ?_
    rw [hes] at pm
    obtain ⟨zs', p', e'⟩ := each_perm pm (each_zs hv)
    refine hq s1 vs zs' k1 g1 o1 p' trivial e' (each_both e' fun u b hb' rb => ?_)
    obtain ⟨as, rd⟩ := L2.Dp.reads I b.2 b.1 u (reads_zs I hd b (p'.mem_iff.mp hb')) rb
    exact ⟨as, PyProof.Rows.Reads.keeps k1 rd⟩
  · obtain ⟨h1, k1, hp1⟩ := hp
    have hn : H p = none := (I.hok.kept k1).fresh hp1
    have hq : s.heap.get? p = none := by
      cases e : s.heap.get? p with
      | none => rfl
      | some u => exact absurd (Nat.lt_of_lt_of_le (Heap.lt_size (k1 p u e)) hp1) (Nat.lt_irrefl _)
    have hol : ((bs'.mergeSort (dataLe false Prod.snd)).map (·.1)).length ≤ sizeLine := by rw [List.length_map, List.length_mergeSort, pm.length_eq]; exact hzl
    have J : Inv X pins σ (upd H p (.lst ((bs'.mergeSort (dataLe false Prod.snd)).map (·.1)))) { s with heap := s'.heap, gens := s'.gens, drawn := s'.drawn, toks := s'.toks } :=
      I.call (ch := []) (un_laid k hq hn) (hok_laid I.hok k hn ⟨hol, out, c, vals_each eo, hg⟩) (by rw [g]; exact I.bare) (fun _ z => nomatch z)
    have e : s' = { s with heap := s'.heap, gens := s'.gens, drawn := s'.drawn, toks := s'.toks } := by
      cases s'
      cases s
      cases o1
      rfl
    rw [e]
    exact ⟨.ref p, _, J, rfl, q p bs' hn pm⟩
def rLenX (w : World) : List V → Hp → VK → Prop := fun vs H Q => ∃ (a : Addr) (us : List Value), vs = [.ref a] ∧ H a = some (setXO w a us) ∧ Q (.int us.length) H
theorem cr_lenX : CallR X (.builtin "len") (rLenX X.w) := by
  intro pins s σ H vs us Q I r h
  obtain ⟨a, ws, rfl, ha, q⟩ := h
  rw [Vals.ref1 r]
  have SX : SetX X.w s.heap a ws := (I.hok a _ ha).1
  obtain ⟨o, es, ep, t, ho, hex, hdt, hes, hb, hf, hr, hl⟩ := SX
  have h2 := congrArg List.length hes
  rw [List.length_map, Array.length_toList] at h2
  unfold scanBound at hb
  refine call_len_set ho hex hdt hf (by omega) ?_
  rw [h2]
  exact ⟨.int ws.length, H, I.tok _, ⟨_, rfl⟩, q⟩
end
end Rl

/-! sorted(set(..)), len(set(..)) in the R layer. -/
namespace Rl
open PySem PySem.Spec PyProof.Rows L2 Dl
open PySem.W
def encK : Key → PyData
  | .inl n => .int n
  | .inr x => .str x
def encT (ks : List Key) : PyData := .tuple (ks.map encK)
def keyD : PyData → Option Key
  | .int n => some (.inl n)
  | .str x => some (.inr x)
  | _ => none
def keysD : List PyData → Option (List Key)
  | [] => some []
  | d :: r => match keyD d, keysD r with
    | some k, some ks => some (k :: ks)
    | _, _ => none
def tupD : PyData → Option (List Key)
  | .tuple ds => keysD ds
  | _ => none
def tupsD : List PyData → Option (List (List Key))
  | [] => some []
  | d :: r => match tupD d, tupsD r with
    | some k, some ks => some (k :: ks)
    | _, _ => none
def nub {α : Type} [DecidableEq α] : List α → List α
  | [] => []
  | x :: r => if x ∈ r then nub r else x :: nub r
theorem nub_mem {α : Type} [DecidableEq α] {x : α} : ∀ {l : List α}, x ∈ nub l ↔ x ∈ l
  | [] => Iff.rfl
  | y :: r => by
    unfold nub
    split
    · rw [nub_mem, List.mem_cons]
      exact ⟨.inr, fun z => z.elim (fun e => by rw [e]; assumption) id⟩
    · rw [List.mem_cons, List.mem_cons, nub_mem]
theorem nub_nodup {α : Type} [DecidableEq α] : ∀ (l : List α), (nub l).Nodup
  | [] => List.nodup_nil
  | y :: r => by
    unfold nub
    split
    · exact nub_nodup r
    · exact List.nodup_cons.mpr ⟨fun z => by rw [nub_mem] at z; contradiction, nub_nodup r⟩
theorem nub_map {α β : Type} [DecidableEq α] [DecidableEq β] {f : α → β} (hf : ∀ a b, f a = f b → a = b) : ∀ (l : List α), nub (l.map f) = (nub l).map f
  | [] => rfl
  | y :: r => by
    have e : f y ∈ r.map f ↔ y ∈ r := ⟨fun z => by obtain ⟨x, hx, e⟩ := List.mem_map.mp z; rw [← hf _ _ e]; exact hx, fun z => List.mem_map.mpr ⟨y, z, rfl⟩⟩
    rw [List.map_cons]
    unfold nub
    by_cases h : y ∈ r
    · rw [if_pos h, if_pos (e.mpr h), nub_map hf r]
    · rw [if_neg h, if_neg fun z => h (e.mp z), nub_map hf r, List.map_cons]
theorem nub_id {α : Type} [DecidableEq α] : ∀ {l : List α}, l.Nodup → nub l = l
  | [], _ => rfl
  | y :: r, h => by
    obtain ⟨h1, h2⟩ := List.nodup_cons.mp h
    unfold nub
    rw [if_neg h1, nub_id h2]
theorem nub_len {α : Type} [DecidableEq α] : ∀ (l : List α), (nub l).length ≤ l.length
  | [] => Nat.le_refl _
  | y :: r => by
    unfold nub
    have := nub_len r
    split
    · rw [List.length_cons]; omega
    · rw [List.length_cons, List.length_cons]; omega
theorem keyD_enc {d : PyData} {k : Key} (h : keyD d = some k) : d = encK k := by
  cases d <;> cases h <;> rfl
theorem keysD_enc : ∀ {ds : List PyData} {ks : List Key}, keysD ds = some ks → ds = ks.map encK
  | [], _, h => by cases h; rfl
  | d :: r, ks, h => by
    unfold keysD at h
    split at h
    · rename_i q1 q2
      cases h
      rw [List.map_cons, ← keyD_enc q1, ← keysD_enc q2]
    · cases h
theorem keyD_of (k : Key) : keyD (encK k) = some k := by cases k <;> rfl
theorem keysD_of : ∀ (ks : List Key), keysD (ks.map encK) = some ks
  | [] => rfl
  | k :: ks => by rw [List.map_cons]; unfold keysD; rw [keyD_of, keysD_of ks]
theorem tupD_enc {d : PyData} {k : List Key} (h : tupD d = some k) : d = encT k := by
  unfold tupD at h
  split at h
  · rw [keysD_enc h]; rfl
  · cases h
theorem tupD_of (k : List Key) : tupD (encT k) = some k := keysD_of k
theorem tupsD_enc : ∀ {ds : List PyData} {ks : List (List Key)}, tupsD ds = some ks → ds = ks.map encT
  | [], _, h => by cases h; rfl
  | d :: r, ks, h => by
    unfold tupsD at h
    split at h
    · rename_i q1 q2
      cases h
      rw [List.map_cons, ← tupD_enc q1, ← tupsD_enc q2]
    · cases h
theorem tupsD_of : ∀ (ks : List (List Key)), tupsD (ks.map encT) = some ks
  | [] => rfl
  | k :: ks => by rw [List.map_cons]; unfold tupsD; rw [tupD_of, tupsD_of ks]
def tokK : Key → Int ⊕ List Nat
  | .inl n => .inl n
  | .inr x => .inr x.cps.toList
theorem tokK_inj {a b : Key} (h : tokK a = tokK b) : a = b := by
  cases a with
  | inl a => cases b with
    | inl b => injection h with h; rw [h]
    | inr b => cases h
  | inr a => cases b with
    | inl b => cases h
    | inr b => injection h with h; rw [str_of_cps h]
theorem toks_key (k : Key) : keyToks (encK k) = [tokK k] := by cases k <;> rfl
theorem encK_inj {a b : Key} (h : keyToks (encK a) = keyToks (encK b)) : encK a = encK b := by
  rw [toks_key, toks_key] at h
  injection h with h _
  rw [tokK_inj h]
theorem toksAll_inj : ∀ {a b : List Key}, keyToksAll (a.map encK) = keyToksAll (b.map encK) → a = b
  | [], [], _ => rfl
  | [], y :: b, h => by
    rw [List.map_nil, List.map_cons, toks_all_cons] at h
    unfold keyToksAll at h
    injection h with h _
    cases h
  | x :: a, [], h => by
    rw [List.map_nil, List.map_cons, toks_all_cons] at h
    conv at h => rhs; unfold keyToksAll
    injection h with h _
    cases h
  | x :: a, y :: b, h => by
    rw [List.map_cons, List.map_cons, toks_all_cons, toks_all_cons, toks_key, toks_key] at h
    injection h with _ h
    injection h with h1 h2
    rw [tokK_inj h1, toksAll_inj h2]
theorem encT_inj {a b : List Key} (h : keyToks (encT a) = keyToks (encT b)) : encT a = encT b := by
  have h : keyToksAll (a.map encK) = keyToksAll (b.map encK) := h
  rw [toksAll_inj h]
/-! the order of data -/
theorem dle_trans (a b c : PyData) (h1 : dataLe false id a b = true) (h2 : dataLe false id b c = true) : dataLe false id a c = true := by
  have h1 : (!lexLt itemOrd (keyToks b) (keyToks a)) = true := h1
  have h2 : (!lexLt itemOrd (keyToks c) (keyToks b)) = true := h2
  show (!lexLt itemOrd (keyToks c) (keyToks a)) = true
  cases e : lexLt itemOrd (keyToks c) (keyToks a) with
  | false => rfl
  | true =>
    rcases lex_negTrans _ (keyToks b) _ e with z | z
    · rw [z] at h2; cases h2
    · rw [z] at h1; cases h1
theorem dle_total (a b : PyData) : (dataLe false id a b || dataLe false id b a) = true := by
  show (!lexLt itemOrd (keyToks b) (keyToks a) || !lexLt itemOrd (keyToks a) (keyToks b)) = true
  cases e1 : lexLt itemOrd (keyToks b) (keyToks a) with
  | false => rfl
  | true =>
    cases e2 : lexLt itemOrd (keyToks a) (keyToks b) with
    | false => rfl
    | true => have := lex_trans _ _ _ e1 e2; rw [lex_irrefl] at this; cases this
theorem dle_anti {a b : PyData} (h1 : dataLe false id a b = true) (h2 : dataLe false id b a = true) : keyToks a = keyToks b := by
  have h1 : (!lexLt itemOrd (keyToks b) (keyToks a)) = true := h1
  have h2 : (!lexLt itemOrd (keyToks a) (keyToks b)) = true := h2
  refine lex_total (O := itemOrd) _ _ ?_ ?_
  · cases e : lexLt itemOrd (keyToks a) (keyToks b) with
    | false => rfl
    | true => rw [e] at h2; cases h2
  · cases e : lexLt itemOrd (keyToks b) (keyToks a) with
    | false => rfl
    | true => rw [e] at h1; cases h1
def TokInj (ds : List PyData) : Prop := ∀ a ∈ ds, ∀ b ∈ ds, keyToks a = keyToks b → a = b
theorem sortD_perm {l1 l2 : List PyData} (p : l1.Perm l2) (inj : TokInj l2) : sortD l1 = sortD l2 := by
  unfold sortD
  refine List.Perm.eq_of_pairwise (le := fun a b => dataLe false id a b = true) (fun a b ha hb h1 h2 => ?_) (List.pairwise_mergeSort dle_trans dle_total _) (List.pairwise_mergeSort dle_trans dle_total _) ((List.mergeSort_perm _ _).trans (p.trans (List.mergeSort_perm _ _).symm))
  exact inj a (p.mem_iff.mp ((List.mergeSort_perm _ _).mem_iff.mp ha)) b ((List.mergeSort_perm _ _).mem_iff.mp hb) (dle_anti h1 h2)
theorem sortD_pw (l : List PyData) : (sortD l).Pairwise (fun a b => dataLe false id a b = true) := List.pairwise_mergeSort dle_trans dle_total _
theorem sortD_p (l : List PyData) : (sortD l).Perm l := List.mergeSort_perm _ _
/-! what a set has -/
def setL (ds : List PyData) : Option (List PyData) := match keysD ds with
  | some ks => if ks.length < 3000 then some ((nub ks).map encK) else none
  | none => match tupsD ds with
    | some kss => if kss.length < 299 then some ((nub kss).map encT) else none
    | none => none
def setF : PyData → Option (List PyData)
  | .list ds => setL ds
  | .tuple ds => setL ds
  | _ => none
theorem setL_inj {ds es : List PyData} (h : setL ds = some es) : TokInj es := by
  unfold setL at h
  split at h
  · split at h
    · cases h
      intro a ha b hb e
      obtain ⟨k, _, rfl⟩ := List.mem_map.mp ha
      obtain ⟨j, _, rfl⟩ := List.mem_map.mp hb
      exact encK_inj e
    · cases h
  · split at h
    · split at h
      · cases h
        intro a ha b hb e
        obtain ⟨k, _, rfl⟩ := List.mem_map.mp ha
        obtain ⟨j, _, rfl⟩ := List.mem_map.mp hb
        exact encT_inj e
      · cases h
    · cases h
theorem setF_inj {d : PyData} {es : List PyData} (h : setF d = some es) : TokInj es := by
  unfold setF at h
  split at h
  · exact setL_inj h
  · exact setL_inj h
  · cases h
theorem dq_key {K : PySem.W.Frag} {B : Hp} {v : V} {d : PyData} {k : Key} (h : Dq K B v d) (hk : keyD d = some k) : v = kV k := by
  cases h <;> cases hk <;> rfl
theorem dq_kv {K : PySem.W.Frag} {B : Hp} (k : Key) : Dq K B (kV k) (encK k) := by
  cases k
  · exact .int _
  · exact .str _
theorem dqa_keys {K : PySem.W.Frag} {B : Hp} : ∀ {vs : List V} {ds : List PyData} {ks : List Key}, DqAll K B vs ds → keysD ds = some ks → vs = ks.map kV
  | _, _, _, .nil, h => by cases h; rfl
  | _, _, _, .cons p t, h => by
    unfold keysD at h
    split at h
    · rename_i q1 q2
      cases h
      rw [List.map_cons, dq_key p q1, dqa_keys t q2]
    · cases h
theorem dqa_kv {K : PySem.W.Frag} {B : Hp} : ∀ (ks : List Key), DqAll K B (ks.map kV) (ks.map encK)
  | [] => .nil
  | k :: ks => .cons (dq_kv k) (dqa_kv ks)
theorem dqa_tups {K : PySem.W.Frag} {B : Hp} : ∀ {vs : List V} {ds : List PyData} {kss : List (List Key)}, DqAll K B vs ds → tupsD ds = some kss → ∃ ps : List (Addr × List Key), ps.map (·.2) = kss ∧ vs = ps.map (fun p => V.ref p.1) ∧ ∀ p ∈ ps, SqT K B p.1 (p.2.map kV)
  | _, _, _, .nil, h => by cases h; exact ⟨[], rfl, rfl, fun p hp => by cases hp⟩
  | _, _, _, .cons p t, h => by
    unfold tupsD at h
    split at h
    · rename_i q1 q2
      cases h
      obtain ⟨ps, e1, e2, e3⟩ := dqa_tups t q2
      unfold tupD at q1
      split at q1
      · cases p with
        | tup hs hd =>
          rw [dqa_keys hd q1] at hs
          refine ⟨(_, _) :: ps, by rw [List.map_cons, e1], by rw [List.map_cons, e2], fun p hp => ?_⟩
          rcases List.mem_cons.mp hp with z | z
          · rw [z]; exact hs
          · exact e3 p z
      · cases q1
    · cases h
section
variable {M : Md} {k : Nat} {N : List Str} {sc : Sco} {X : Cx} {W : WX} {ρ : List Sl} {e : Expr} {xa : Nat → Addr} {ra : RE}
/-- a new set that has ds, in some order -/
def DSet (M : Md) (X : Cx) (e : Expr) (ρ : List Sl) (ds : List PyData) : Prop := ∀ B F σ H, EnvB M.K B F H σ ρ → ∀ Q : VK, (∀ (a : Addr) (us : List Value) (zs : List (V × PyData)) H' B', Same B B' → EnvB M.K B' F H' σ ρ → B' a = some (setXO M.w a us) → Vals (zs.map Prod.fst) us → (∀ z ∈ zs, Dq M.K B' z.1 z.2) → (zs.map Prod.snd).Perm ds → Q (.ref a) H') → semE X e σ H Q
theorem vals_kv : ∀ {L : List (Value × Key)}, (∀ p ∈ L, RelV (kV p.2) p.1) → Vals (L.map fun p => kV p.2) (L.map (·.1))
  | [], _ => .nil
  | p :: L, h => .cons (h p List.mem_cons_self) (vals_kv fun q hq => h q (List.mem_cons_of_mem _ hq))
theorem dset_seq {q p2 : Pos} {d : PyData} {ds es : List PyData} (c : Cn M k N sc X W) (hm : M.mg "set" = none) (hg : (glB sc "set" && okN "set") = true) (ha : DE M X e ρ d) (hd : d = .list ds ∨ d = .tuple ds) (hf : setL ds = some es)
    (he : starEach [e] X.env = (false, eval e X.env) :: starEach [] X.env) : DSet M X (.Call (.Name "set" q) [e] [] p2) ρ es := by
  rw [Bool.and_eq_true] at hg
  have sq : ∀ B F σ H v, EnvB M.K B F H σ ρ → Dq M.K B v d → ∃ l vs, v = .ref l ∧ (SqL X.K H l vs ∨ SqT X.K H l vs) ∧ DqAll M.K B vs ds := fun B F σ H v I p => by
    rw [c.eK]
    rcases hd with rfl | rfl
    · cases p with
      | lst h t => exact ⟨_, _, rfl, .inl (SqL.of (I.bh _ _ h)), t⟩
    · cases p with
      | tup h t => exact ⟨_, _, rfl, .inr (Evl.ex_t I.bh h), t⟩
  unfold setL at hf
  split at hf
  · rename_i ks hks
    split at hf
    · rename_i hlt
      cases hf
      refine fun B F σ H I Q q pins s iv => (pe_callTy (cr_setK c.calm) (c.gl hg.1) (by rw [c.eg]; exact hm) boot_set (pa_cons pe_sem pa_nil he) (okN3 hg.2) (okN1 hg.2) he rfl).run pins s σ H Q iv ?_
      refine ha B F σ H I _ fun v H1 B1 s1 I1 p1 => ?_
      obtain ⟨l, vs, rfl, hs, al⟩ := sq B1 F σ H1 v I1 p1
      cases dqa_keys al hks
      refine ⟨l, ks, rfl, hs, hlt, fun a L hn h1 h2 h3 h4 => ?_⟩
      rw [c.ew]
      obtain ⟨s2, I2⟩ := I1.new (o := setXO M.w a (L.map (·.1))) hn
      refine q a (L.map (·.1)) (L.map fun p => (kV p.2, encK p.2)) _ _ (s1.trans s2) I2 upd_same (by rw [List.map_map]; exact vals_kv h1) (fun z hz => ?_) ?_
      · obtain ⟨p, _, rfl⟩ := List.mem_map.mp hz
        exact dq_kv _
      · rw [List.map_map]
        have e : (L.map (Prod.snd ∘ fun p : Value × Key => (kV p.2, encK p.2))) = (L.map (·.2)).map encK := by rw [List.map_map]; rfl
        rw [e]
        refine List.Perm.map _ ((List.perm_ext_iff_of_nodup h2 (nub_nodup ks)).mpr fun x => ?_)
        rw [nub_mem]
        exact ⟨fun z => by obtain ⟨p, hp, rfl⟩ := List.mem_map.mp z; exact h3 p hp, h4 x⟩
    · cases hf
  · split at hf
    · rename_i kss hks
      split at hf
      · rename_i hlt
        cases hf
        refine fun B F σ H I Q q pins s iv => (pe_callTy (cr_setQ c.calm (by have := c.un; omega)) (c.gl hg.1) (by rw [c.eg]; exact hm) boot_set (pa_cons pe_sem pa_nil he) (okN3 hg.2) (okN1 hg.2) he rfl).run pins s σ H Q iv ?_
        refine ha B F σ H I _ fun v H1 B1 s1 I1 p1 => ?_
        obtain ⟨l, vs, rfl, hs, al⟩ := sq B1 F σ H1 v I1 p1
        obtain ⟨ps, rfl, rfl, h3⟩ := dqa_tups al hks
        have h3' : ∀ p ∈ ps, SqT X.K H1 p.1 (p.2.map kV) := fun p hp => by rw [c.eK]; exact Evl.ex_t I1.bh (h3 p hp)
        rw [List.length_map] at hlt
        refine ⟨l, ps, rfl, hs, h3', hlt, fun a L hn g1 g2 g3 => ?_⟩
        rw [c.ew]
        obtain ⟨s2, I2⟩ := I1.new (o := setXO M.w a (L.map fun p => .ref p.1)) hn
        refine q a _ (L.map fun p => (V.ref p.1, encT p.2)) _ _ (s1.trans s2) I2 upd_same (by rw [List.map_map]; exact vals_refs L) (fun z hz => ?_) ?_
        · obtain ⟨p, hp, rfl⟩ := List.mem_map.mp hz
          exact .tup (Evl.ex_t s2 (h3 p (g2 p hp))) (dqa_kv _)
        · rw [List.map_map]
          have e : (L.map (Prod.snd ∘ fun p : Addr × List Key => (V.ref p.1, encT p.2))) = (L.map (·.2)).map encT := by rw [List.map_map]; rfl
          rw [e]
          refine List.Perm.map _ ((List.perm_ext_iff_of_nodup g1 (nub_nodup _)).mpr fun x => ?_)
          rw [nub_mem]
          refine ⟨fun z => ?_, fun z => ?_⟩
          · obtain ⟨p, hp, rfl⟩ := List.mem_map.mp z
            exact List.mem_map.mpr ⟨p, g2 p hp, rfl⟩
          · obtain ⟨p, hp, rfl⟩ := List.mem_map.mp z
            exact g3 p hp
      · cases hf
    · cases hf
theorem dset_of {q p2 : Pos} {d : PyData} {es : List PyData} (c : Cn M k N sc X W) (hm : M.mg "set" = none) (hg : (glB sc "set" && okN "set") = true) (ha : DE M X e ρ d) (hf : setF d = some es)
    (he : starEach [e] X.env = (false, eval e X.env) :: starEach [] X.env) : DSet M X (.Call (.Name "set" q) [e] [] p2) ρ es := by
  unfold setF at hf
  split at hf
  · exact dset_seq c hm hg ha (.inl rfl) hf he
  · exact dset_seq c hm hg ha (.inr rfl) hf he
  · cases hf
theorem lay_all : ∀ {ds : List PyData}, PyData.canLayAll0 ds = true ↔ ∀ d ∈ ds, d.canLay0 = true
  | [] => Iff.intro (fun _ d hd => nomatch hd) (fun _ => rfl)
  | d :: r => by
    show (d.canLay0 && PyData.canLayAll0 r) = true ↔ _
    rw [Bool.and_eq_true, lay_all]
    exact ⟨fun z x hx => (List.mem_cons.mp hx).elim (fun e => e ▸ z.1) (z.2 x), fun z => ⟨z d List.mem_cons_self, fun x hx => z x (List.mem_cons_of_mem _ hx)⟩⟩
theorem dqa_of_zs {K : PySem.W.Frag} {B : Hp} : ∀ {zs : List (V × PyData)}, (∀ z ∈ zs, Dq K B z.1 z.2) → DqAll K B (zs.map Prod.fst) (zs.map Prod.snd)
  | [], _ => .nil
  | z :: zs, h => .cons (h z List.mem_cons_self) (dqa_of_zs fun y hy => h y (List.mem_cons_of_mem _ hy))
theorem de_sortSet {f : Expr} {q p2 : Pos} {es : List PyData} (c : Cn M k N sc X W) (hm : M.mg "sorted" = none) (hg : (glB sc "sorted" && okN "sorted") = true) (hs : DSet M X f ρ es) (ok : okSort es = true) (inj : TokInj es)
    (he : starEach [f] X.env = (false, eval f X.env) :: starEach [] X.env) : DE M X (.Call (.Name "sorted" q) [f] [] p2) ρ (.list (sortD es)) := by
  rw [Bool.and_eq_true] at hg
  refine de_of (pe_callB (cr_sortX c.calm c.un) (c.gl hg.1) (by rw [c.eg]; exact hm) PyProof.Rows.boot_sorted (pa_cons pe_sem pa_nil he) (okN3 hg.2) (okN1 hg.2) he rfl) fun B F σ H I Q q => ?_
  refine hs B F σ H I _ fun a us zs H1 B1 s1 I1 ha hv hz pm => ?_
  have mem : ∀ d, d ∈ zs.map Prod.snd ↔ d ∈ es := fun d => pm.mem_iff
  have lay : PyData.canLayAll0 (zs.map Prod.snd) = true := lay_all.mpr fun d hd => lay_all.mp (okSort_lay ok) d ((mem d).mp hd)
  refine ⟨a, us, zs, rfl, by rw [c.ew]; exact I1.bh _ _ ha, hv, by rw [c.eK]; exact dqa_dp (dpa_mono I1.bh (dqa_of_zs hz)) lay, fun d hd d' hd' => okSort_alike ok d ((mem d).mp hd) d' ((mem d').mp hd'),
    (okSort_able ok).imp (fun z d hd => z d ((mem d).mp hd)) (fun z d hd => z d ((mem d).mp hd)), fun d hd => okSort_depth ok d ((mem d).mp hd), fun p zs' hp pm' => ?_⟩
  obtain ⟨s2, I2⟩ := I1.new (o := .lst _) hp
  refine q _ _ _ (s1.trans s2) I2 (.lst upd_same ?_)
  have e : sortD es = (zs'.mergeSort (dataLe false Prod.snd)).map Prod.snd := by
    rw [← sortD_perm ((pm'.map Prod.snd).trans pm) inj]
    unfold sortD
    rw [List.map_mergeSort (r := dataLe false Prod.snd) (s := dataLe false id) (f := fun x : V × PyData => x.2) (fun a _ b _ => rfl)]
  rw [e]
  exact dpa_mono s2 (dqa_of_zs fun z hz' => hz z (pm'.mem_iff.mp ((List.mergeSort_perm _ _).mem_iff.mp hz')))
theorem de_lenSet {f : Expr} {q p2 : Pos} {es : List PyData} (c : Cn M k N sc X W) (hm : M.mg "len" = none) (hg : (glB sc "len" && okN "len") = true) (hs : DSet M X f ρ es)
    (he : starEach [f] X.env = (false, eval f X.env) :: starEach [] X.env) : DE M X (.Call (.Name "len" q) [f] [] p2) ρ (.int es.length) := by
  rw [Bool.and_eq_true] at hg
  refine de_of (pe_callB cr_lenX (c.gl hg.1) (by rw [c.eg]; exact hm) PySem.boot_len (pa_cons pe_sem pa_nil he) (okN3 hg.2) (okN1 hg.2) he rfl) fun B F σ H I Q q => ?_
  refine hs B F σ H I _ fun a us zs H1 B1 s1 I1 ha hv hz pm => ?_
  have e : us.length = es.length := by have := hv.length; rw [List.length_map] at this; rw [← pm.length_eq, List.length_map]; omega
  refine ⟨a, us, rfl, by rw [c.ew]; exact I1.bh _ _ ha, ?_⟩
  rw [e]
  exact q _ _ _ s1 I1 (.int _)
def fSortSet (d : PyData) : Option PyData := match setF d with
  | some es => if okSort es = true then some (.list (sortD es)) else none
  | none => none
def fLenSet (d : PyData) : Option PyData := match setF d with
  | some es => some (.int es.length)
  | none => none
def rSortSet (a : RE) : RE := fun ρ => vE (a ρ) fun d => (fSortSet d).map .ret
def rLenSet (a : RE) : RE := fun ρ => vE (a ρ) fun d => (fLenSet d).map .ret
theorem se_sortSet {q1 q2 p1 p2 : Pos} (hs : M.mg "sorted" = none) (ht : M.mg "set" = none) (ha : SE M k N xa sc e ra) (he : ∀ env, starEach [e] env = (false, eval e env) :: starEach [] env := by intro _; rfl)
    (hg : (glB sc "sorted" && okN "sorted") = true := by decide +kernel) (hg2 : (glB sc "set" && okN "set") = true := by decide +kernel) : SE M k N xa sc (.Call (.Name "sorted" q1) [.Call (.Name "set" q2) [e] [] p2] [] p1) (rSortSet ra) where
  ok X W c ρ d h := by
    obtain ⟨d1, h1, h⟩ := vE_inv h
    have h := map_ret h
    unfold fSortSet at h
    split at h
    · rename_i es hf
      split at h
      · rename_i ok
        cases h
        exact de_sortSet c hs hg (dset_of c ht hg2 (ha.ok X W c ρ d1 h1) hf (he _)) ok (setF_inj hf) rfl
      · cases h
    · cases h
  ex X W c ρ c' h := by
    obtain ⟨d1, h1, h⟩ := vE_inv h
    exact (map_exc h).elim
theorem se_lenSet {q1 q2 p1 p2 : Pos} (hs : M.mg "len" = none) (ht : M.mg "set" = none) (ha : SE M k N xa sc e ra) (he : ∀ env, starEach [e] env = (false, eval e env) :: starEach [] env := by intro _; rfl)
    (hg : (glB sc "len" && okN "len") = true := by decide +kernel) (hg2 : (glB sc "set" && okN "set") = true := by decide +kernel) : SE M k N xa sc (.Call (.Name "len" q1) [.Call (.Name "set" q2) [e] [] p2] [] p1) (rLenSet ra) where
  ok X W c ρ d h := by
    obtain ⟨d1, h1, h⟩ := vE_inv h
    have h := map_ret h
    unfold fLenSet at h
    split at h
    · rename_i es hf
      cases h
      exact de_lenSet c hs hg (dset_of c ht hg2 (ha.ok X W c ρ d1 h1) hf (he _)) rfl
    · cases h
  ex X W c ρ c' h := by
    obtain ⟨d1, h1, h⟩ := vE_inv h
    exact (map_exc h).elim
end
end Rl

/-! Slots that are not read any more are forgotten: ahead of a suite, behind a turn. -/
namespace Rl
open PySem PySem.Spec PyProof.Rows L2 Dl
def keepS : List Bool → List Sl → List Sl
  | [], r => r
  | _ :: _, [] => []
  | true :: m, x :: r => x :: keepS m r
  | false :: m, _ :: r => .no :: keepS m r
theorem keep_n {r : List Sl} : keepS [] r = r := by cases r <;> rfl
theorem keep_e {m : List Bool} : keepS m [] = [] := by cases m <;> rfl
theorem keep_t {m : List Bool} {x : Sl} {r : List Sl} : keepS (true :: m) (x :: r) = x :: keepS m r := rfl
theorem keep_f {m : List Bool} {x : Sl} {r : List Sl} : keepS (false :: m) (x :: r) = .no :: keepS m r := rfl
theorem keep_le : ∀ (m : List Bool) (r : List Sl), Le (keepS m r) r
  | [], r => by rw [keep_n]; exact Le.refl _
  | b :: m, [] => by rw [keep_e]; exact Le.refl _
  | true :: m, x :: r => le_same (keep_le m r)
  | false :: m, x :: r => le_drop (keep_le m r)
def kRes (m : List Bool) : Res → Res
  | .nx ρ => .nx (keepS m ρ)
  | .rt d ρ => .rt d ρ
  | .ex c ρ => .ex c ρ
  | .bk ρ => .bk (keepS m ρ)
  | .ct ρ => .ct (keepS m ρ)
def sKeep (m : List Bool) (s : RS) : RS := fun ρ => s (keepS m ρ)
def sPost (m : List Bool) (s : RS) : RS := fun ρ => (s ρ).map (kRes m)
section
variable {M : Md} {k : Nat} {N : List Str} {xa : Nat → Addr} {sc : Sco} {tr : Bool} {sts : List Stmt} {s : RS}
theorem sb_keep (m : List Bool) (h : SB M k N xa sc tr sts s) : SB M k N xa sc tr sts (sKeep m s) := ⟨fun X W c t ρ r hh B F σ H I E f => h.ok X W c t (keepS m ρ) r hh B F σ H (I.le (keep_le m ρ)) E f⟩
theorem sb_post (m : List Bool) (h : SB M k N xa sc tr sts s) : SB M k N xa sc tr sts (sPost m s) := ⟨fun X W c t ρ r hh B F σ H I E f => by
  unfold sPost at hh
  cases e : s ρ with
  | none => rw [e] at hh; cases hh
  | some r0 =>
    rw [e] at hh
    cases hh
    refine h.ok X W c t ρ r0 e B F σ H I E ⟨?_, ?_, ?_, ?_, ?_⟩
    · rintro ρ' σ' H' B' rfl sm I'
      exact f.nx _ σ' H' B' rfl sm (I'.le (keep_le m ρ'))
    · intro d ρ' x σ' H' B' z sm I' p
      cases (show r0 = .rt d ρ' from z)
      exact f.rt d ρ' x σ' H' B' rfl sm I' p
    · rintro C ρ' σ' H' B' ⟨c', rfl, z⟩ sm I'
      cases z
      exact f.ex _ ρ' σ' H' B' ⟨c', rfl, rfl⟩ sm I'
    · intro ρ' σ' H' B' z sm I'
      cases (show r0 = .bk ρ' from z)
      exact f.bk _ σ' H' B' rfl sm (I'.le (keep_le m ρ'))
    · intro ρ' σ' H' B' z sm I'
      cases (show r0 = .ct ρ' from z)
      exact f.ct _ σ' H' B' rfl sm (I'.le (keep_le m ρ'))⟩
end
theorem e_keep {m : List Bool} {s : RS} {ρ : List Sl} : sKeep m s ρ = s (keepS m ρ) := rfl
theorem e_post {m : List Bool} {s : RS} {ρ : List Sl} : sPost m s ρ = (s ρ).map (kRes m) := rfl
theorem kRes_nx {m : List Bool} {ρ : List Sl} : kRes m (.nx ρ) = .nx (keepS m ρ) := rfl
theorem kRes_rt {m : List Bool} {ρ : List Sl} {d : PyData} : kRes m (.rt d ρ) = .rt d ρ := rfl
theorem kRes_ex {m : List Bool} {ρ : List Sl} {d : Nat} : kRes m (.ex d ρ) = .ex d ρ := rfl
theorem kRes_bk {m : List Bool} {ρ : List Sl} : kRes m (.bk ρ) = .bk (keepS m ρ) := rfl
theorem kRes_ct {m : List Bool} {ρ : List Sl} : kRes m (.ct ρ) = .ct (keepS m ρ) := rfl
end Rl

/-! zip of a tuple and a list. -/
namespace Rl
open PySem PySem.Spec PyProof.Rows L2 Dl
def ItzM (K : PySem.W.Frag) (a b : Addr) : It where
  go i H := ∃ (xs ys : List V) (x y : V), SqT K H a xs ∧ SqL K H b ys ∧ xs[i]? = some x ∧ ys[i]? = some y
  yld i H v H' := ∃ T x y, v = .ref T ∧ H T = none ∧ H' = upd H T (.tup [x, y]) ∧ (∀ xs, SqT K H a xs → xs[i]? = some x) ∧ ∀ ys, SqL K H b ys → ys[i]? = some y
  stop i H := ∃ xs ys : List V, SqT K H a xs ∧ SqL K H b ys ∧ i ≤ xs.length ∧ i ≤ ys.length ∧ (i = xs.length ∨ i = ys.length)
theorem turn_zipM {P : Program} {w : World} {K : PySem.W.Frag} {elts : List Expr} {kk : Nat} {tpos : Pos} {a b z TI TO i1 i2 : Addr} (D : ZipSep2 z TI TO i1 i2 [i1, a] [i2, b]) (na : a ≠ i1) (nb : b ≠ i2) :
    Turn P w K (.Tuple elts kk tpos) (ItzM K a b) [z, TI, TO, i1, i2] z (fun i h => IsZip h z TI TO .none ∧ IsTupOf2 h TI (.ref i1) (.ref i2) ∧ (∃ x y, IsTupOf2 h TO x y) ∧ h.IsTupleIter i1 a i ∧ h.IsListIter i2 b i) where
  mem := by simp
  obj := fun i h st c hc => by
    obtain ⟨hz, hTI, ⟨x, y, hTO⟩, ⟨o1, e1, _, d1⟩, ⟨o2, e2, _, d2⟩⟩ := st
    rcases (show c = z ∨ c = TI ∨ c = TO ∨ c = i1 ∨ c = i2 by simpa using hc) with q | q | q | q | q <;> rw [q]
    · exact ⟨_, hz, fun v q => nomatch q⟩
    · exact ⟨_, hTI, fun v q => nomatch q⟩
    · exact ⟨_, hTO, fun v q => nomatch q⟩
    · exact ⟨o1, e1, fun v q => by rw [d1] at q; cases q⟩
    · exact ⟨o2, e2, fun v q => by rw [d2] at q; cases q⟩
  keep := fun i h h' ⟨hz, hTI, ⟨x, y, hTO⟩, h1, h2⟩ k => ⟨k z (by simp) _ hz, k TI (by simp) _ hTI, ⟨x, y, k TO (by simp) _ hTO⟩, h1.at fun o q => k i1 (by simp) o q, h2.at fun o q => k i2 (by simp) o q⟩
  item := by
    intro X hP hw hK hc i pins s σ H E I hf st hg
    subst hP hw hK
    obtain ⟨hz, hTI, ⟨x0, y0, hTO⟩, h1, h2⟩ := st
    obtain ⟨xs, ys, x, y, hqx, hqy, hx, hy⟩ := hg
    obtain ⟨its, rv, p, _⟩ := I.tuple hqx
    obtain ⟨its2, rv2, p2, _⟩ := I.list hqy
    obtain ⟨u, hu, ru⟩ := rv.get hx
    obtain ⟨u2, hu2, ru2⟩ := rv2.get hy
    have hzl : z < s.heap.objs.size := Heap.lt_size hz
    have hi1 : i < its.toArray.size := by rw [List.size_toArray]; exact (List.getElem?_eq_some_iff.mp hu).1
    have hi2 : i < its2.toArray.size := by rw [List.size_toArray]; exact (List.getElem?_eq_some_iff.mp hu2).1
    have D1 := Draws.tuple (prog := X.prog) (w := X.w) (A := X.A.in1) (I.ok.hd hc) i1 a na its.toArray
    have D2 := Draws.list (prog := X.prog) (w := X.w) (A := X.A.in1) (I.ok.hd hc) i2 b nb its2.toArray
    refine wpAny_pyNext_zipD2_item D D1 D2 hz hTI hTO ⟨h1, p⟩ ⟨h2, p2.isList⟩ hi1 hi2 fun v1 v2 h' tk y1 y2 z' TO' h1' h2' hT hsz hk => ?_
    obtain rfl : v1 = u := by
      have q : its[i]? = some v1 := by simpa using y1
      exact Option.some.inj (q.symm.trans hu)
    obtain rfl : v2 = u2 := by
      have q : its2[i]? = some v2 := by simpa using y2
      exact Option.some.inj (q.symm.trans hu2)
    refine ⟨_, rfl, wpAny_letOwnedTupleGo_zip (s := { s with heap := h', toks := tk }) z' fun h'' z'' sb => ?_⟩
    have hT2 : h''.get? s.heap.objs.size = some { cls := .type "tuple", data := .seq #[v1, v2] } := (sb.2 _ (Nat.ne_of_gt hzl)).trans hT
    have new : ObjOk X.prog X.w (upd H s.heap.objs.size (.tup [x, y])) h'' s.heap.objs.size (.tup [x, y]) := ⟨by show 2 ≤ sizeLine; decide, [v1, v2], .cons ru (.cons ru2 .nil), ⟨_, hT2, rfl, _, rfl⟩⟩
    have I1 : Inv X pins σ (upd H s.heap.objs.size (.tup [x, y])) { s with heap := h'', toks := tk } :=
      I.turnedNew (t' := tk) (ch := [z, TI, TO, i1, i2]) (fun c o hb q => (sb.2 c (fun q' => hb (by simp [q']))).trans (hk c o (fun q' => hb (by simp [q'])) (fun q' => hb (by simp [q'])) (fun q' => hb (by simp [q'])) (fun q' => hb (by simp [q'])) q)) hf (Nat.le_refl _) new
    have tz : TI ≠ z := D.TIz
    refine ⟨.ref s.heap.objs.size, _, I1, rfl, ⟨_, x, y, rfl, I.hok.fresh (Nat.le_refl _), rfl, fun l hl => by rw [I.tuple_inj hl hqx]; exact hx, fun l hl => by rw [I.list_inj hl hqy]; exact hy⟩, ⟨z'', ?_, ⟨v1, v2, ?_⟩, ?_, ?_⟩, fun c hcm => ?_⟩
    · exact (sb.2 _ D.TIz).trans (hk _ _ D.TIz D.TITO D.TIi1 D.TIi2 hTI)
    · exact (sb.2 _ D.TOz).trans TO'
    · exact h1'.1.at fun o q => (sb.2 _ (Ne.symm D.zi1)).trans q
    · exact h2'.1.at fun o q => (sb.2 _ (Ne.symm D.zi2)).trans q
    · have hlt : c < s.heap.objs.size := by
        rcases (show c = z ∨ c = TI ∨ c = TO ∨ c = i1 ∨ c = i2 by simpa using hcm) with q | q | q | q | q <;> rw [q]
        · exact hzl
        · exact Heap.lt_size hTI
        · exact Heap.lt_size hTO
        · obtain ⟨_, e1, _⟩ := h1; exact Heap.lt_size e1
        · obtain ⟨_, e2, _⟩ := h2; exact Heap.lt_size e2
      rw [upd_ne (Nat.ne_of_lt hlt)]
      exact (hf c hcm).1
  done := by
    intro X hP hw hK hc i pins s σ H E I hf st hg
    subst hP hw hK
    obtain ⟨hz, hTI, ⟨x0, y0, hTO⟩, h1, h2⟩ := st
    obtain ⟨xs, ys, hqx, hqy, le1, le2, hend⟩ := hg
    obtain ⟨its, rv, p, _⟩ := I.tuple hqx
    obtain ⟨its2, rv2, p2, _⟩ := I.list hqy
    have l1 := rv.length
    have l2 := rv2.length
    have D1 := Draws.tuple (prog := X.prog) (w := X.w) (A := X.A.in1) (I.ok.hd hc) i1 a na its.toArray
    have D2 := Draws.list (prog := X.prog) (w := X.w) (A := X.A.in1) (I.ok.hd hc) i2 b nb its2.toArray
    have s1 : its.toArray.size = its.length := List.size_toArray
    have s2 : its2.toArray.size = its2.length := List.size_toArray
    exact wpAny_pyNext_zipD2_end D D1 D2 hz hTI hTO ⟨h1, p⟩ ⟨h2, p2.isList⟩ (by omega) (by omega) (by omega) fun h' tk hk => ⟨rfl, I.turnedL (t' := tk) (ch := [z, TI, TO, i1, i2]) (fun c o hb q =>
      hk c o (fun q' => hb (by simp [q'])) (fun q' => hb (by simp [q'])) (fun q' => hb (by simp [q'])) (fun q' => hb (by simp [q'])) q) hf⟩
  self := fun A i s Q E st h => wpAny_pyIter_zip st.1 h
def iZipM0 (K : PySem.W.Frag) (ta : TA) : TI := fun σ H R => ta σ H fun vs H1 => ∃ a b xs ys, vs = [.ref a, .ref b] ∧ SqT K H1 a xs ∧ SqL K H1 b ys ∧ R (ItzM K a b) H1
theorem pi_zipM {X : Cx} {e e2 : Expr} {ta : TA} {p pos tpos : Pos} {elts : List Expr} {kk : Nat} (hg : Gl X "zip") (hm : X.mg "zip" = none) (ha : PA X [e, e2] ta)
    (hs : starEach [e, e2] X.env = (false, eval e X.env) :: starEach [e2] X.env) (hpl : (backTo pos (starEach [e2] X.env)).any (·.1) = false) : PI X (.Tuple elts kk tpos) (.Call (.Name "zip" p) [e, e2] [] pos) (iZipM0 X.K ta) := by
  refine ⟨fun pins s σ H R I h => ?_⟩
  refine Call_ (ld_blt I hg hm PyProof.Rows.boot_zip (PyProof.Rows.callWith_type1 (thn (ha.run pos pins s σ H _ I h) fun us s1 ⟨vs, H1, I1, r1, q1⟩ => ?_) hs hpl))
  obtain ⟨a, b, xs, ys, ex, hqx, hqy, q⟩ := q1
  subst ex
  cases r1 with
  | cons r rr =>
    cases rr with
    | cons r' rr =>
      cases rr
      cases r
      cases r'
      obtain ⟨its, rv, p1, _⟩ := I1.tuple hqx
      obtain ⟨its2, rv2, p2, _⟩ := I1.list hqy
      have la : a < s1.heap.objs.size := by obtain ⟨o, ho, _⟩ := id p1; exact Heap.lt_size ho
      have lb : b < s1.heap.objs.size := p2.lt
      refine zip_begins2 (begins_tuple a its.toArray) (begins_list b its2.toArray) p1 p2.isList fun h' hz hTI hTO h1 h2 hsz hk => wpAny_pyIter_zip hz ?_
      have I2 : Inv X pins σ H1 { s1 with heap := h' } := I1.kept (t' := s1.toks) hk
      have sep := zip_sep2 (N := s1.heap.objs.size) (fp1 := [a]) (fp2 := [b]) (fun c hc => by rw [List.mem_singleton.mp hc]; exact la) (fun c hc => by rw [List.mem_singleton.mp hc]; exact lb)
      refine ⟨s1.heap.objs.size + 4, [s1.heap.objs.size + 4, s1.heap.objs.size + 2, s1.heap.objs.size + 3, s1.heap.objs.size, s1.heap.objs.size + 1], _, _, H1, rfl, I2, turn_zipM sep (Nat.ne_of_lt la) (Nat.ne_of_lt (Nat.lt_succ_of_lt lb)), ⟨hz, hTI, ⟨_, _, hTO⟩, ⟨_, h1, rfl, rfl⟩, ⟨_, h2, rfl, rfl⟩⟩, fun c hcm => ?_, q⟩
      have hle : s1.heap.objs.size ≤ c := by
        rcases (show c = s1.heap.objs.size + 4 ∨ c = s1.heap.objs.size + 2 ∨ c = s1.heap.objs.size + 3 ∨ c = s1.heap.objs.size ∨ c = s1.heap.objs.size + 1 by simpa using hcm) with z | z | z | z | z <;> rw [z]
        · exact Nat.le_add_right _ _
        · exact Nat.le_add_right _ _
        · exact Nat.le_add_right _ _
        · exact Nat.le_refl _
        · exact Nat.le_add_right _ _
      exact I1.fpOk hle (I1.hok.fresh hle)
section
variable {M : Md} {k : Nat} {N : List Str} {xa : Nat → Addr} {sc : Sco} {X : Cx} {W : WX} {ρ : List Sl} {a b : Expr} {ds es' : List PyData} {pos : Pos} {ra rb : RE}
theorem di_zipM {elts : List Expr} {kk : Nat} {tpos q : Pos} (c : Cv M N sc X) (hm : M.mg "zip" = none) (ha : DE M X a ρ (.tuple ds)) (hb : DE M X b ρ (.list es'))
    (hs : starEach [a, b] X.env = (false, eval a X.env) :: starEach [b] X.env) (hs2 : starEach [b] X.env = (false, eval b X.env) :: starEach [] X.env) (hpl : (backTo pos (starEach [b] X.env)).any (·.1) = false) (hg : glB sc "zip" = true) : DI M X (.Tuple elts kk tpos) (.Call (.Name "zip" q) [a, b] [] pos) ρ (zipD ds es') :=
  di_of (pi_zipM (c.gl hg) (by rw [c.eg]; exact hm) (pa_cons pe_sem (pa_cons pe_sem pa_nil hs2) hs) hs hpl) fun B F σ H I Rk r => ha B F σ H I _ fun v H1 B1 s I1 p => hb B1 F σ H1 I1 _ fun v2 H2 B2 s2 I2 p2 => by
    have ln : (zipD ds es').length = min ds.length es'.length := by unfold zipD; rw [List.length_zipWith]
    cases p with
    | tup sq al =>
      cases p2 with
      | lst sq2 al2 =>
        rename_i a1 xs a2 ys
        have l1 := dpa_len al
        have l2 := dpa_len al2
        refine ⟨a1, a2, xs, ys, rfl, by rw [c.eK]; exact Evl.ex_t (s2.trans I2.bh) sq, SqL.of (I2.bh _ _ sq2), r _ H2 B2 (s.trans s2) I2 fun B4 F4 H4 σ4 ρ4 s4 I4 => ?_⟩
        have q1 : SqT X.K H4 a1 xs := by rw [c.eK]; exact Evl.ex_t ((s2.trans s4).trans I4.bh) sq
        have q2 : SqL X.K H4 a2 ys := SqL.of ((s4.trans I4.bh) _ _ sq2)
        refine ⟨fun i d hd => ?_, ⟨xs, ys, q1, q2, by rw [ln]; omega, by rw [ln]; omega, by rw [ln]; omega⟩⟩
        unfold zipD at hd
        rw [List.getElem?_zipWith] at hd
        cases h1 : ds[i]? with
        | none => rw [h1] at hd; cases hd
        | some u1 =>
          cases h2 : es'[i]? with
          | none => rw [h1, h2] at hd; cases hd
          | some u2 =>
            rw [h1, h2] at hd
            cases hd
            obtain ⟨v, hv, pv⟩ := dpa_getd (dpa_mono s2 al) i u1 h1
            obtain ⟨w, hw, pw⟩ := dpa_getd al2 i u2 h2
            refine ⟨⟨xs, ys, v, w, q1, q2, hv, hw⟩, fun x H5 hy => ?_⟩
            obtain ⟨T, v', w', rfl, hT0, rfl, g1, g2⟩ := hy
            obtain rfl : v' = v := Option.some.inj ((g1 xs q1).symm.trans hv)
            obtain rfl : w' = w := Option.some.inj ((g2 ys q2).symm.trans hw)
            obtain ⟨s5, I5⟩ := I4.new (o := .tup [v', w']) hT0
            exact ⟨_, s5, I5, .tup (.inl (.inl upd_same)) (.cons (dp_mono (s4.trans s5) pv) (.cons (dp_mono (s4.trans s5) pw) .nil))⟩
def zipX (d d2 : PyData) : Option RL := match d, d2 with
  | .list x, .list y => some (.vs (zipD x y))
  | .tuple x, .tuple y => some (.vs (zipD x y))
  | .tuple x, .list y => some (.vs (zipD x y))
  | _, _ => none
def iZipX (a b : RE) : RA := fun ρ => vE (a ρ) fun d => vE (b ρ) fun d2 => zipX d d2
theorem si_zipX {elts : List Expr} {kk : Nat} {tpos q : Pos} (hm : M.mg "zip" = none) (ha : SE M k N xa sc a ra) (hb : SE M k N xa sc b rb) (hs : ∀ env, starEach [a, b] env = (false, eval a env) :: starEach [b] env := by intro _; rfl) (hs2 : ∀ env, starEach [b] env = (false, eval b env) :: starEach [] env := by intro _; rfl) (hpl : ∀ env, (backTo pos (starEach [b] env)).any (·.1) = false := by intro _; rfl) (hg : glB sc "zip" = true := by decide +kernel) :
    SI M k N xa sc (.Tuple elts kk tpos) (.Call (.Name "zip" q) [a, b] [] pos) (iZipX ra rb) where
  ok X W c ρ ds hh := by
    obtain ⟨d, h1, hh⟩ := vE_inv hh
    obtain ⟨d2, h2, hh⟩ := vE_inv hh
    unfold zipX at hh
    split at hh
    · cases hh; exact di_zip c.toCv hm (ha.ok X W c ρ _ h1) (hb.ok X W c ρ _ h2) (.inl ⟨rfl, rfl⟩) (hs _) (hs2 _) (hpl _) hg
    · cases hh; exact di_zip c.toCv hm (ha.ok X W c ρ _ h1) (hb.ok X W c ρ _ h2) (.inr ⟨rfl, rfl⟩) (hs _) (hs2 _) (hpl _) hg
    · cases hh; exact di_zipM c.toCv hm (ha.ok X W c ρ _ h1) (hb.ok X W c ρ _ h2) (hs _) (hs2 _) (hpl _) hg
    · cases hh
  ex X W c ρ c' hh := by
    obtain ⟨d, h1, hh⟩ := vE_inv hh
    obtain ⟨d2, h2, hh⟩ := vE_inv hh
    unfold zipX at hh
    split at hh <;> cases hh
end
theorem e_zipX {a b : RE} {ρ : List Sl} : iZipX a b ρ = vE (a ρ) fun d => vE (b ρ) fun d2 => zipX d d2 := rfl
theorem zipX_l {x y : List PyData} : zipX (.list x) (.list y) = some (.vs (zipD x y)) := rfl
theorem zipX_t {x y : List PyData} : zipX (.tuple x) (.tuple y) = some (.vs (zipD x y)) := rfl
theorem zipX_m {x y : List PyData} : zipX (.tuple x) (.list y) = some (.vs (zipD x y)) := rfl
end Rl

/-! New lists by +, * and list(..); several names set at once, new lists among the values; xs[i] = e. -/
namespace Rl
open PySem PySem.Spec PyProof.Rows L2 Dl
section
variable {M : Md} {k kf : Nat} {N : List Str} {xa : Nat → Addr} {sc : Sco} {tr : Bool} {e a b c' : Expr} {es : List Expr} {st : Stmt} {pos p2 p3 p4 p5 : Pos} {x y z : Str} {i j l : Nat} {X : Cx} {W : WX} {ρ ρ' ρ'' ρ3 : List Sl} {ds : List PyData}
variable {ra rb : RE} {rn : RN} {nx : List Sl → Prop} {R : REnds}
/-! ### new lists -/
def addN (d1 d2 : PyData) : Option (List PyData) := match d1, d2 with
  | .list x, .list y => if x.length + y.length ≤ 10000000 then some (x ++ y) else none
  | _, _ => none
def nAdd (a b : RE) : RN := fun ρ => vE (a ρ) fun d1 => vE (b ρ) fun d2 => addN d1 d2
theorem sn_add (ha : SE M k N xa sc a ra) (hb : SE M k N xa sc b rb) : SN M k N xa sc (.BinOp a .Add b pos) (nAdd ra rb) := ⟨fun X W c ρ ds h => by
  obtain ⟨d1, h1, h⟩ := vE_inv h
  obtain ⟨d2, h2, h⟩ := vE_inv h
  unfold addN at h
  split at h
  · split at h
    · cases h; exact dn_addL (ha.ok X W c ρ _ h1) (hb.ok X W c ρ _ h2) (by assumption)
    · cases h
  · cases h⟩
def repN (d1 d2 : PyData) : Option (List PyData) := match d1, d2 with
  | .list x, .int n => if 0 ≤ n ∧ n ≤ 100000 ∧ x.length * n.toNat ≤ 100000 then some (List.replicate n.toNat x).flatten else none
  | _, _ => none
def nRep (a b : RE) : RN := fun ρ => vE (a ρ) fun d1 => vE (b ρ) fun d2 => repN d1 d2
theorem sn_rep (ha : SE M k N xa sc a ra) (hb : SE M k N xa sc b rb) : SN M k N xa sc (.BinOp a .Mult b pos) (nRep ra rb) := ⟨fun X W c ρ ds h => by
  obtain ⟨d1, h1, h⟩ := vE_inv h
  obtain ⟨d2, h2, h⟩ := vE_inv h
  unfold repN at h
  split at h
  · split at h
    · rename_i q
      cases h; exact dn_rep (ha.ok X W c ρ _ h1) (hb.ok X W c ρ _ h2) ⟨q.1, q.2.1⟩ q.2.2
    · cases h
  · cases h⟩
theorem dn_list {q : Pos} {d : PyData} (c : Cv M N sc X) (hm : M.mg "list" = none) (ha : DE M X e ρ d) (hd : d = .list ds ∨ d = .tuple ds) (he : starEach [e] X.env = (false, eval e X.env) :: starEach [] X.env) (hg : (glB sc "list" && okN "list") = true) :
    DN M X (.Call (.Name "list" q) [e] [] pos) ρ ds := by
  rw [Bool.and_eq_true] at hg
  refine dn_of (pe_callTy call_list_of (c.gl hg.1) (by rw [c.eg]; exact hm) boot_list (pa_cons pe_sem pa_nil he) (okN3 hg.2) (okN1 hg.2) he rfl) fun B F σ H I Q q => ha B F σ H I _ fun v H' B' s I' p => ?_
  rcases hd with rfl | rfl
  · cases p with
    | lst sq al => exact ⟨_, _, rfl, .inl (SqL.of (I'.bh _ _ sq)), fun a ha => q a _ _ B' s (I'.fh.free ha) (I'.lay ha) al⟩
  · cases p with
    | tup sq al => exact ⟨_, _, rfl, .inr (by rw [c.eK]; exact Evl.ex_t I'.bh sq), fun a ha => q a _ _ B' s (I'.fh.free ha) (I'.lay ha) al⟩
def listN : PyData → Option (List PyData)
  | .list x => some x
  | .tuple x => some x
  | _ => none
def nList (a : RE) : RN := fun ρ => vE (a ρ) listN
theorem sn_list {q : Pos} (hm : M.mg "list" = none) (ha : SE M k N xa sc e ra) (he : ∀ env, starEach [e] env = (false, eval e env) :: starEach [] env := by intro _; rfl) (hg : (glB sc "list" && okN "list") = true := by decide +kernel) : SN M k N xa sc (.Call (.Name "list" q) [e] [] pos) (nList ra) := ⟨fun X W c ρ ds h => by
  obtain ⟨d1, h1, h⟩ := vE_inv h
  unfold listN at h
  split at h
  · cases h; exact dn_list c.toCv hm (ha.ok X W c ρ _ h1) (.inl rfl) (he _) hg
  · cases h; exact dn_list c.toCv hm (ha.ok X W c ρ _ h1) (.inr rfl) (he _) hg
  · cases h⟩
/-! ### several values, new lists among them -/
/-- v is what a slot s is to hold; the frame F' has, beyond F, what s owns -/
def Sto (K : PySem.W.Frag) (B F F' : Hp) (v : V) : Sl → Prop
  | .v d => F' = F ∧ Dq K B v d
  | .ol ds => ∃ p xs, v = .ref p ∧ F p = none ∧ F' = upd F p (.lst xs) ∧ DqAll K B xs ds
  | _ => False
theorem Sto.mono {K : PySem.W.Frag} {B B' F F' : Hp} {v : V} {s : Sl} (e : Same B B') (h : Sto K B F F' v s) : Sto K B' F F' v s := by
  cases s with
  | v d => exact ⟨h.1, dp_mono e h.2⟩
  | ol ds =>
    obtain ⟨p, xs, h1, h2, h3, h4⟩ := h
    exact ⟨p, xs, h1, h2, h3, dpa_mono e h4⟩
  | _ => exact h.elim
theorem Sto.set {K : PySem.W.Frag} {B F F' H : Hp} {σ : L2.St} {v : V} {s : Sl} (h : Sto K B F F' v s) (I : EnvB K B F' H σ ρ) (i : Nat) (hi : i < ρ.length) : EnvB K B F H (σ.set i (some v)) (ρ.set i s) := by
  cases s with
  | v d =>
    obtain ⟨rfl, h2⟩ := h
    exact I.setv i hi h2
  | ol ds =>
    obtain ⟨p, xs, rfl, h2, rfl, h4⟩ := h
    exact I.setol h2 h4 i hi
  | _ => exact h.elim
inductive StoAll (K : PySem.W.Frag) (B : Hp) : Hp → Hp → List V → List Sl → Prop
  | nil {F : Hp} : StoAll K B F F [] []
  | cons {F F1 F2 : Hp} {v : V} {vs : List V} {s : Sl} {ss : List Sl} (h : Sto K B F F1 v s) (t : StoAll K B F1 F2 vs ss) : StoAll K B F F2 (v :: vs) (s :: ss)
def DM (M : Md) (X : Cx) (es : List Expr) (ρ ss : List Sl) : Prop := ∀ B F σ H, EnvB M.K B F H σ ρ → ∀ Q : List V → Hp → Prop, (∀ vs H' B' F', Same B B' → EnvB M.K B' F' H' σ ρ → StoAll M.K B' F F' vs ss → Q vs H') → semA X es σ H Q
abbrev RM := List Sl → Option (List Sl)
structure SM (M : Md) (k : Nat) (N : List Str) (xa : Nat → Addr) (sc : Sco) (es : List Expr) (r : RM) : Prop where
  ok : ∀ X W, Cn M k N sc X W → ∀ ρ ss, r ρ = some ss → DM M X es ρ ss
def mNil : RM := fun _ => some []
def mD (a : RE) (r : RM) : RM := fun ρ => vE (a ρ) fun d => (r ρ).map (Sl.v d :: ·)
def mN (n : RN) (r : RM) : RM := fun ρ => match n ρ with
  | some ds => (r ρ).map (Sl.ol ds :: ·)
  | none => none
theorem sm_nil : SM M k N xa sc [] mNil := ⟨fun X W c ρ ss h B F σ H I Q q pos pins s iv => by
  cases h
  exact pa_nil.run pos pins s σ H Q iv (q [] H B F (Same.refl B) I .nil)⟩
theorem map_inv {α β : Type} {f : α → β} {o : Option α} {b : β} (h : o.map f = some b) : ∃ a, o = some a ∧ b = f a := by
  cases o with
  | none => cases h
  | some a => cases h; exact ⟨a, rfl, rfl⟩
theorem sm_d {rm : RM} (h : SE M k N xa sc e ra) (hr : SM M k N xa sc es rm) (hs : ∀ env, starEach (e :: es) env = (false, eval e env) :: starEach es env := by intro _; rfl) : SM M k N xa sc (e :: es) (mD ra rm) := ⟨fun X W c ρ ss hh B F σ H I Q q pos pins s iv => by
  obtain ⟨d, h1, hh⟩ := vE_inv hh
  obtain ⟨ss', h2, rfl⟩ := map_inv hh
  refine (pa_cons pe_sem pa_sem (hs _)).run pos pins s σ H Q iv ?_
  exact h.ok X W c ρ d h1 B F σ H I _ fun v H1 B1 s1 I1 p1 => hr.ok X W c ρ ss' h2 B1 F σ H1 I1 _ fun vs H2 B2 F2 s2 I2 t => q (v :: vs) H2 B2 F2 (s1.trans s2) I2 (.cons ⟨rfl, dp_mono s2 p1⟩ t)⟩
theorem sm_n {rm : RM} (h : SN M k N xa sc e rn) (hr : SM M k N xa sc es rm) (hs : ∀ env, starEach (e :: es) env = (false, eval e env) :: starEach es env := by intro _; rfl) : SM M k N xa sc (e :: es) (mN rn rm) := ⟨fun X W c ρ ss hh B F σ H I Q q pos pins s iv => by
  unfold mN at hh
  split at hh
  · rename_i ds h1
    obtain ⟨ss', h2, rfl⟩ := map_inv hh
    refine (pa_cons pe_sem pa_sem (hs _)).run pos pins s σ H Q iv ?_
    exact h.ok X W c ρ ds h1 B F σ H I _ fun p xs H1 B1 s1 hf I1 hd => hr.ok X W c ρ ss' h2 B1 _ σ H1 I1 _ fun vs H2 B2 F2 s2 I2 t => q (.ref p :: vs) H2 B2 F2 (s1.trans s2) I2 (.cons ⟨p, xs, rfl, hf, rfl, dpa_mono s2 hd⟩ t)
  · cases hh⟩
/-- slots set one behind the other -/
def ssL : List Nat → List Sl → List Sl → Option (List Sl)
  | [], [], ρ => some ρ
  | j :: js, s :: ss, ρ => match sS ρ j s with
    | some ρ1 => ssL js ss ρ1
    | none => none
  | _, _, _ => none
def sParM (js : List Nat) (r : RM) : RS := fun ρ => match r ρ with
  | some ss => nxO (ssL js ss ρ)
  | none => none
theorem sParM_inv {js : List Nat} {rm : RM} {r : Res} (h : sParM js rm ρ = some r) : ∃ ss ρ', rm ρ = some ss ∧ ssL js ss ρ = some ρ' ∧ r = .nx ρ' := by
  unfold sParM at h
  split at h
  · obtain ⟨ρ', e2, rfl⟩ := nxO_inv h
    exact ⟨_, ρ', by assumption, e2, rfl⟩
  · cases h
theorem ssL_cons {js : List Nat} {ss : List Sl} (h : ssL (j :: js) ss ρ = some ρ') : ∃ s ss' ρ1, ss = s :: ss' ∧ SetAt j s ρ ρ1 ∧ ssL js ss' ρ1 = some ρ' := by
  cases ss with
  | nil => cases h
  | cons s ss' =>
    unfold ssL at h
    split at h
    · rename_i q
      exact ⟨s, ss', _, rfl, sS_set q, h⟩
    · cases h
theorem ssL_nil {ss : List Sl} (h : ssL [] ss ρ = some ρ') : ss = [] ∧ ρ' = ρ := by
  cases ss with
  | nil => cases h; exact ⟨rfl, rfl⟩
  | cons s ss' => cases h
theorem ss_parM2 {k1 k2 : Nat} {rm : RM} (hi : Get i x N) (hj : Get j y N) (ha : SM M k N xa sc [a, b] rm) (hij : i ≠ j := by decide)
    (hw : swappedStores [.Tuple [.Name x p2, .Name y p3] k1 p4] (.Tuple [a, b] k2 p5) (env0 sc.rd) = pure (some [x, y]) := by kernel_rfl) (hl : (sc.rd.names.lookup x == some .local && sc.rd.names.lookup y == some .local) = true := by decide +kernel) :
    SS M k N xa sc tr (.Assign [.Tuple [.Name x p2, .Name y p3] k1 p4] (.Tuple [a, b] k2 p5) pos) (sParM [i, j] rm) := ⟨fun X W c t ρ r hh => by
  obtain ⟨ss, ρ', e1, e2, rfl⟩ := sParM_inv hh
  obtain ⟨s1, ss1, ρ1, rfl, g1, e2⟩ := ssL_cons e2
  obtain ⟨s2, ss2, ρ2, rfl, g2, e2⟩ := ssL_cons e2
  obtain ⟨rfl, rfl⟩ := ssL_nil e2
  rw [Bool.and_eq_true, beq_iff_eq, beq_iff_eq] at hl
  refine ds_of (ps_par c.calm (by rw [c.hN]; exact c.nd) (by rw [c.hN]; exact hi.at) (by rw [c.hN]; exact hj.at) hij (by rw [c.hs]; exact hl.1) (by rw [c.hs]; exact hl.2) pa_sem (by rw [sw_env c.hs]; exact hw)) fun B F σ H I E f => ha.ok X W c ρ _ e1 B F σ H I _ fun vs H' B' F' s I' p => ?_
  cases p with
  | cons h1 t1 =>
    cases t1 with
    | cons h2 t2 =>
      cases t2
      have q1 := g1.eq
      have q2 := g2.eq
      have l2 : j < ρ.length := by have := q2.2; rw [← q1.1, List.length_set] at this; exact this
      have J := h1.set (h2.set I' j l2) i (by rw [List.length_set]; exact q1.2)
      refine ⟨_, _, rfl, f.nx _ _ H' B' rfl s ?_⟩
      rw [← q2.1, ← q1.1, List.set_comm _ _ hij, List.set_comm _ _ hij]
      exact J⟩
theorem ss_parM3 {k1 k2 : Nat} {p6 : Pos} {rm : RM} (hi : Get i x N) (hj : Get j y N) (hk : Get l z N) (ha : SM M k N xa sc [a, b, c'] rm) (hij : i ≠ j := by decide) (hil : i ≠ l := by decide) (hjl : j ≠ l := by decide)
    (hw : swappedStores [.Tuple [.Name x p2, .Name y p3, .Name z p6] k1 p4] (.Tuple [a, b, c'] k2 p5) (env0 sc.rd) = pure (some [x, y, z]) := by kernel_rfl) (hl : (sc.rd.names.lookup x == some .local && sc.rd.names.lookup y == some .local && sc.rd.names.lookup z == some .local) = true := by decide +kernel) :
    SS M k N xa sc tr (.Assign [.Tuple [.Name x p2, .Name y p3, .Name z p6] k1 p4] (.Tuple [a, b, c'] k2 p5) pos) (sParM [i, j, l] rm) := ⟨fun X W c t ρ r hh => by
  obtain ⟨ss, ρ', e1, e2, rfl⟩ := sParM_inv hh
  obtain ⟨s1, ss1, ρ1, rfl, g1, e2⟩ := ssL_cons e2
  obtain ⟨s2, ss2, ρ2, rfl, g2, e2⟩ := ssL_cons e2
  obtain ⟨s3, ss3, ρ3, rfl, g3, e2⟩ := ssL_cons e2
  obtain ⟨rfl, rfl⟩ := ssL_nil e2
  rw [Bool.and_eq_true, Bool.and_eq_true, beq_iff_eq, beq_iff_eq, beq_iff_eq] at hl
  refine ds_of (ps_par3 c.calm (by rw [c.hN]; exact c.nd) (by rw [c.hN]; exact hi.at) (by rw [c.hN]; exact hj.at) (by rw [c.hN]; exact hk.at) hij hil hjl (by rw [c.hs]; exact hl.1.1) (by rw [c.hs]; exact hl.1.2) (by rw [c.hs]; exact hl.2) pa_sem (by rw [sw_env c.hs]; exact hw)) fun B F σ H I E f => ha.ok X W c ρ _ e1 B F σ H I _ fun vs H' B' F' s I' p => ?_
  cases p with
  | cons h1 t1 =>
    cases t1 with
    | cons h2 t2 =>
      cases t2 with
      | cons h3 t3 =>
        cases t3
        have q1 := g1.eq
        have q2 := g2.eq
        have q3 := g3.eq
        have l2 : j < ρ.length := by have := q2.2; rw [← q1.1, List.length_set] at this; exact this
        have l3 : l < ρ.length := by have := q3.2; rw [← q2.1, List.length_set, ← q1.1, List.length_set] at this; exact this
        have J := h1.set (h2.set (h3.set I' l l3) j (by rw [List.length_set]; exact l2)) i (by rw [List.length_set, List.length_set]; exact q1.2)
        refine ⟨_, _, _, rfl, f.nx _ _ H' B' rfl s ?_⟩
        rw [← q3.1, ← q2.1, ← q1.1]
        have cm : ∀ {α : Type} (L : List α) (u v w : α), ((L.set l w).set j v).set i u = ((L.set i u).set j v).set l w := fun L u v w => by
          rw [List.set_comm (i := l) (j := j) _ _ (Ne.symm hjl), List.set_comm (i := l) (j := i) _ _ (Ne.symm hil), List.set_comm (i := j) (j := i) _ _ (Ne.symm hij)]
        rw [← cm, ← cm]
        exact J⟩
/-! ### xs[i] = e -/
def sLPut (i : Nat) (a b : RE) : RS := fun ρ => vE (b ρ) fun d => vE (a ρ) fun dn => match gO ρ i, dn with
  | some ds, .int n => if 0 ≤ n ∧ n < ds.length then nxO (sS ρ i (.ol (ds.set n.toNat d))) else none
  | _, _ => none
theorem ds_lput {d : PyData} {n : Int} (c : Cn M k N sc X W) (hi : Get i x N) (hd : Get i (.ol ds) ρ) (he : DE M X e ρ d) (ha : DE M X a ρ (.int n)) (hn : 0 ≤ n ∧ n < ds.length) (hr : SetAt i (.ol (ds.set n.toNat d)) ρ ρ') (hnx : nx ρ') (hv : (visB sc x && okN x) = true)
    (hs : swapsWithSole [.Subscript (.Name x p2) a p3] e pos.line X.env = pure false) (hw : swappedStores [.Subscript (.Name x p2) a p3] e X.env = pure none) (h1 : (assignEach [.Subscript (.Name x p2) a p3] X.env).map (·.2) = [assign (.Subscript (.Name x p2) a p3) X.env])
    (hp : PlainIx a) (hq : ∀ X' : Cx, PG X' (.Subscript (.Name x p2) a p3) (gSub (semE X' (.Name x p2)) (semE X' a) rSetL)) : DS M X W (.Assign [.Subscript (.Name x p2) a p3] e pos) ρ nx R := by
  rw [Bool.and_eq_true] at hv
  have hvar : ∀ B F σ H, EnvB M.K B F H σ ρ → ∀ Q : VK, (∀ l xs, σ[i]? = some (some (.ref l)) → H l = some (.lst xs) → Q (.ref l) H) → semE X (.Name x p2) σ H Q := fun B F σ H I Q q pins s iv => by
    obtain ⟨l, xs, hσ, hl, al, _⟩ := EnvB.olst I hd
    exact (pe_var (i := i) (by rw [c.hN]; exact hi.at) (c.vis hv.1) (okN1 hv.2) (okN2 hv.2)).run pins s σ H Q iv ⟨_, hσ, q l xs hσ hl⟩
  refine ds_of (ps_asg pe_sem (hq X) hs hw h1) fun B F σ H I E f => he B F σ H I _ fun v H1 B1 s1 I1 p1 => ?_
  refine hvar B1 F σ H1 I1 _ fun l xs hσ hl => ?_
  refine ha B1 F σ H1 I1 _ fun w H2 B2 s2 I2 p2 => ?_
  cases p2
  obtain ⟨l', xs', hσ', hl', al', hm⟩ := EnvB.olst I2 hd
  rw [hσ] at hσ'
  cases hσ'
  have hlen := dpa_len al'
  refine ⟨l, xs', n, n.toNat, rfl, rfl, hl', ?_, f.nx _ _ _ B2 hnx (s1.trans s2) ?_⟩
  · unfold ixN
    rw [if_pos hn.1, if_pos (by omega)]
  · rw [← hr.eq.1]
    exact hm _ _ (dpa_set (dp_mono s2 p1) _ al')
theorem sLPut_inv {r : Res} (h : sLPut i ra rb ρ = some r) : ∃ d n ds ρ', rb ρ = some (.ret d) ∧ ra ρ = some (.ret (.int n)) ∧ gO ρ i = some ds ∧ (0 ≤ n ∧ n < ds.length) ∧ sS ρ i (.ol (ds.set n.toNat d)) = some ρ' ∧ r = .nx ρ' := by
  obtain ⟨d, h1, h⟩ := vE_inv h
  obtain ⟨dn, h2, h⟩ := vE_inv h
  split at h
  · rename_i ds n q1
    split at h
    · obtain ⟨ρ', e2, rfl⟩ := nxO_inv h
      exact ⟨d, n, ds, ρ', h1, h2, q1, by assumption, e2, rfl⟩
    · cases h
  · cases h
theorem ss_lput (hi : Get i x N) (ha : SE M k N xa sc a ra) (hb : SE M k N xa sc e rb) (hs : ∀ env, swapsWithSole [.Subscript (.Name x p2) a p3] e pos.line env = pure false := by intro _; rfl) (hw : swappedStores [.Subscript (.Name x p2) a p3] e (env0 sc.rd) = pure none := by kernel_rfl)
    (h1 : ∀ env, (assignEach [.Subscript (.Name x p2) a p3] env).map (·.2) = [assign (.Subscript (.Name x p2) a p3) env] := by intro _; rfl) (hp : PlainIx a := by intro _ _; rfl)
    (hq : ∀ X' : Cx, PG X' (.Subscript (.Name x p2) a p3) (gSub (semE X' (.Name x p2)) (semE X' a) rSetL) := by intro _; exact pg_sub pe_sem pe_sem set_list) (hv : (visB sc x && okN x) = true := by decide +kernel) :
    SS M k N xa sc tr (.Assign [.Subscript (.Name x p2) a p3] e pos) (sLPut i ra rb) := ⟨fun X W c t ρ r hh => by
  obtain ⟨d, n, ds, ρ', e1, e2, e3, e4, e5, rfl⟩ := sLPut_inv hh
  exact ds_lput c hi (gO_get e3) (hb.ok X W c ρ _ e1) (ha.ok X W c ρ _ e2) e4 (sS_set e5) rfl hv (hs _) (by rw [sw_env c.hs]; exact hw) (h1 _) hp hq⟩
/-! ### several names set at once, by way of a tuple -/
def setVs : L2.St → List Nat → List V → L2.St
  | σ, j :: js, v :: vs => setVs (σ.set j (some v)) js vs
  | σ, _, _ => σ
theorem setVs_set {j : Nat} {v : V} : ∀ {js : List Nat} {vs : List V} {σ : L2.St}, j ∉ js → setVs (σ.set j (some v)) js vs = (setVs σ js vs).set j (some v)
  | [], _, _, _ => rfl
  | _ :: _, [], _, _ => rfl
  | q :: js, w :: vs, σ, h => by
    have hq : j ≠ q := fun z => h (by rw [z]; exact List.mem_cons_self)
    show setVs ((σ.set j (some v)).set q (some w)) js vs = _
    rw [List.set_comm _ _ hq, setVs_set fun z => h (List.mem_cons_of_mem _ z)]
    rfl
theorem ssL_set {j : Nat} {s : Sl} : ∀ {js : List Nat} {ss : List Sl} {ρ ρ' : List Sl}, j ∉ js → j < ρ.length → ssL js ss (ρ.set j s) = some ρ' → ∃ ρ'', ssL js ss ρ = some ρ'' ∧ ρ' = ρ''.set j s ∧ ρ''.length = ρ.length
  | [], ss, ρ, ρ', _, _, h => by
    obtain ⟨rfl, rfl⟩ := ssL_nil h
    exact ⟨ρ, rfl, rfl, rfl⟩
  | q :: js, ss, ρ, ρ', hn, hl, h => by
    have hq : j ≠ q := fun z => hn (by rw [z]; exact List.mem_cons_self)
    obtain ⟨s1, ss1, ρ1, rfl, g1, h⟩ := ssL_cons h
    have e1 := g1.eq
    have l1 : q < ρ.length := by have := e1.2; rwa [List.length_set] at this
    rw [← e1.1, List.set_comm _ _ hq] at h
    obtain ⟨ρ2, a1, a2, a3⟩ := ssL_set (ρ := ρ.set q s1) (fun z => hn (List.mem_cons_of_mem _ z)) (by rw [List.length_set]; exact hl) h
    refine ⟨ρ2, ?_, a2, by rw [a3, List.length_set]⟩
    have sq : ∀ {ρ : List Sl} {q : Nat}, q < ρ.length → sS ρ q s1 = some (ρ.set q s1) := by
      intro ρ
      induction ρ with
      | nil => intro q h; exact absurd h (Nat.not_lt_zero _)
      | cons x r ih =>
        intro q h
        cases q with
        | zero => rfl
        | succ q => show (sS r q s1).map (x :: ·) = _; rw [ih (Nat.lt_of_succ_lt_succ h)]; rfl
    unfold ssL
    rw [sq l1]
    exact a1
theorem StoAll.setAll {K : PySem.W.Frag} {B H : Hp} : ∀ {js : List Nat} {vs : List V} {ss : List Sl} {F F' : Hp} {σ : L2.St} {ρ ρ' : List Sl}, StoAll K B F F' vs ss → EnvB K B F' H σ ρ → ssL js ss ρ = some ρ' → js.Nodup → vs.length = js.length → EnvB K B F H (setVs σ js vs) ρ'
  | [], _, _, _, _, σ, ρ, ρ', t, I, h, _, _ => by
    obtain ⟨rfl, rfl⟩ := ssL_nil h
    cases t
    exact I
  | j :: js, vs, ss, F, F', σ, ρ, ρ', t, I, h, hn, hl => by
    obtain ⟨s1, ss1, ρ1, rfl, g1, h⟩ := ssL_cons h
    obtain ⟨n1, n2⟩ := List.nodup_cons.mp hn
    cases t with
    | cons h1 t1 =>
      rename_i F1 v vs
      have e1 := g1.eq
      rw [← e1.1] at h
      obtain ⟨ρ2, a1, rfl, a3⟩ := ssL_set n1 e1.2 h
      have J := StoAll.setAll t1 I a1 n2 (by simpa using hl)
      show EnvB K B F H (setVs (σ.set j (some v)) js vs) _
      rw [setVs_set n1]
      exact h1.set J j (by rw [a3]; exact e1.2)
theorem gL_sets : ∀ {js : List Nat} {vs : List V} {σ : L2.St} {H : Hp} {Q : L2.St → Hp → Prop}, vs.length = js.length → Q (setVs σ js vs) H → gL js vs σ H Q
  | [], [], _, _, _, _, q => ⟨rfl, q⟩
  | [], _ :: _, _, _, _, h, _ => by cases h
  | _ :: _, [], _, _, _, h, _ => by cases h
  | j :: js, v :: vs, σ, H, Q, h, q => ⟨v, vs, rfl, gL_sets (by simpa using h) q⟩
theorem sto_len {K : PySem.W.Frag} {B : Hp} : ∀ {F F' : Hp} {vs : List V} {ss : List Sl}, StoAll K B F F' vs ss → vs.length = ss.length
  | _, _, _, _, .nil => rfl
  | _, _, _, _, .cons _ t => by rw [List.length_cons, List.length_cons, sto_len t]
theorem ssL_len : ∀ {js : List Nat} {ss : List Sl} {ρ ρ' : List Sl}, ssL js ss ρ = some ρ' → ss.length = js.length
  | [], ss, ρ, ρ', h => by obtain ⟨rfl, _⟩ := ssL_nil h; rfl
  | j :: js, ss, ρ, ρ', h => by
    obtain ⟨s1, ss1, ρ1, rfl, _, h⟩ := ssL_cons h
    rw [List.length_cons, List.length_cons, ssL_len h]
theorem env_unlay {K : PySem.W.Frag} {B F H : Hp} {σ : L2.St} {p : Addr} {o : HO} (I : EnvB K B (upd F p o) H σ ρ) (h : F p = none) : EnvB K B F H σ ρ := by
  have sf : Same F (upd F p o) := same_upd h
  refine ⟨I.ln, I.bh, sf.trans I.fh, fun a u e => I.dj a u (sf a u e), ?_⟩
  obtain ⟨O, h1, h2⟩ := I.own
  refine ⟨O, fun a t e => ⟨(h1 a t e).1, ?_, (h1 a t e).2.2⟩, h2⟩
  have q := (h1 a t e).2.1
  by_cases ha : a = p
  · rw [ha]; exact h
  · rwa [upd_ne ha] at q
theorem ss_asgM {tg : Expr} {js : List Nat} {k2 : Nat} {rm : RM} (hg : SG M k N sc tg (.tp js)) (ha : SM M k N xa sc es rm) (hn : js.Nodup := by decide) (hs : ∀ env, swapsWithSole [tg] (.Tuple es k2 p5) pos.line env = pure false := by intro _; rfl) (hw : swappedStores [tg] (.Tuple es k2 p5) (env0 sc.rd) = pure none := by kernel_rfl)
    (h1 : ∀ env, (assignEach [tg] env).map (·.2) = [assign tg env] := by intro _; rfl) (h9 : js.length ≤ 1000 := by decide) : SS M k N xa sc tr (.Assign [tg] (.Tuple es k2 p5) pos) (sParM js rm) := ⟨fun X W c t ρ r hh => by
  obtain ⟨ss, ρ', e1, e2, rfl⟩ := sParM_inv hh
  have hw' : swappedStores [tg] (.Tuple es k2 p5) X.env = pure none := by rw [sw_env c.hs]; exact hw
  refine ds_of (ps_asg (pe_tup pa_sem) (hg.ok X W c) (hs _) hw' (h1 _)) fun B F σ H I E f => ha.ok X W c ρ _ e1 B F σ H I _ fun vs H' B' F' s I' p => ?_
  have hl : vs.length = js.length := by rw [sto_len p, ssL_len e2]
  refine ⟨by rw [hl]; exact Evl.sz_of (Nat.le_trans h9 (by decide)), fun a hfa => ?_⟩
  have I2 := EnvB.idle (o := .tup vs) I' hfa
  refine ⟨a, vs, rfl, .inl (.inl upd_same), hl, gL_sets hl ?_⟩
  exact f.nx _ _ _ B' rfl s (StoAll.setAll p I2 e2 hn hl)⟩
/-! ### list(range(..)) -/
theorem dqa_rg {K : PySem.W.Frag} {B : Hp} (lo : Int) : ∀ l : List Nat, DqAll K B (l.map fun i => V.int (lo + (i : Nat))) (l.map fun i => .int (lo + (i : Nat)))
  | [] => .nil
  | _ :: l => .cons (.int _) (dqa_rg lo l)
def smallR (m : Int) : Bool := decide (-1000000 ≤ m) && decide (m ≤ 1000000)
theorem smallR_of {m : Int} (h : smallR m = true) : -1000000 ≤ m ∧ m ≤ 1000000 := by
  unfold smallR at h
  rw [Bool.and_eq_true] at h
  exact ⟨of_decide_eq_true h.1, of_decide_eq_true h.2⟩
def lr1F : PyData → Option PyData
  | .int n => if smallR n = true then some (.list (rangeD 0 n.toNat)) else none
  | _ => none
def lr2F (d d2 : PyData) : Option PyData := match d, d2 with
  | .int m, .int n => if (smallR m && smallR n) = true then some (.list (rangeD m (n - m).toNat)) else none
  | _, _ => none
def rLR1 (a : RE) : RE := fun ρ => vE (a ρ) fun d => (lr1F d).map .ret
def rLR2 (a b : RE) : RE := fun ρ => vE (a ρ) fun d => vE (b ρ) fun d2 => (lr2F d d2).map .ret
theorem se_lr1 {q q2 : Pos} (hl : M.mg "list" = none) (hr : M.mg "range" = none) (ha : SE M k N xa sc a ra) (he : ∀ env, starEach [a] env = (false, eval a env) :: starEach [] env := by intro _; rfl) (hg : glB sc "list" = true := by decide +kernel) (hg2 : glB sc "range" = true := by decide +kernel) :
    SE M k N xa sc (.Call (.Name "list" q) [.Call (.Name "range" q2) [a] [] p2] [] pos) (rLR1 ra) where
  ok X W c ρ d h := by
    obtain ⟨d1, h1, h⟩ := vE_inv h
    have h := map_ret h
    unfold lr1F at h
    split at h
    · rename_i n
      split at h
      · rename_i hs
        have hs := smallR_of hs
        cases h
        refine de_of (pe_listRg c.calm (c.gl hg) (by rw [c.eg]; exact hl) (prg_1 (c.gl hg2) (by rw [c.eg]; exact hr) pe_sem (he _)) rfl) fun B F σ H I Q q => ha.ok X W c ρ _ h1 B F σ H I _ fun v H' B' s I' p => ?_
        cases p
        refine ⟨_, rfl, ⟨by omega, by omega, by omega, by omega, by omega⟩, fun a hfa => ?_⟩
        obtain ⟨s2, I2⟩ := I'.new (o := .lst _) hfa
        refine q _ _ _ (s.trans s2) I2 (.lst upd_same ?_)
        unfold rgV rangeD
        rw [Int.sub_zero]
        exact dqa_rg 0 _
      · cases h
    · cases h
  ex X W c ρ c' h := by
    obtain ⟨d1, h1, h⟩ := vE_inv h
    exact (map_exc h).elim
theorem se_lr2 {q q2 : Pos} (hl : M.mg "list" = none) (hr : M.mg "range" = none) (ha : SE M k N xa sc a ra) (hb : SE M k N xa sc b rb) (he : ∀ env, starEach [a, b] env = (false, eval a env) :: starEach [b] env := by intro _; rfl) (he2 : ∀ env, starEach [b] env = (false, eval b env) :: starEach [] env := by intro _; rfl) (hpl : ∀ env, (backTo p2 (starEach [b] env)).any (·.1) = false := by intro _; rfl)
    (hg : glB sc "list" = true := by decide +kernel) (hg2 : glB sc "range" = true := by decide +kernel) : SE M k N xa sc (.Call (.Name "list" q) [.Call (.Name "range" q2) [a, b] [] p2] [] pos) (rLR2 ra rb) where
  ok X W c ρ d h := by
    obtain ⟨d1, h1, h⟩ := vE_inv h
    obtain ⟨d2, h2, h⟩ := vE_inv h
    have h := map_ret h
    unfold lr2F at h
    split at h
    · rename_i m n
      split at h
      · rename_i hs
        rw [Bool.and_eq_true] at hs
        have hm := smallR_of hs.1
        have hn := smallR_of hs.2
        cases h
        refine de_of (pe_listRg c.calm (c.gl hg) (by rw [c.eg]; exact hl) (prg_2 (c.gl hg2) (by rw [c.eg]; exact hr) pe_sem pe_sem (he _) (he2 _) (hpl _)) rfl) fun B F σ H I Q q => ha.ok X W c ρ _ h1 B F σ H I _ fun v H1 B1 s I1 p => hb.ok X W c ρ _ h2 B1 F σ H1 I1 _ fun v2 H' B' s' I' p2 => ?_
        cases p
        cases p2
        refine ⟨_, _, rfl, rfl, ⟨by omega, by omega, by omega, by omega, by omega⟩, fun a hfa => ?_⟩
        obtain ⟨s2, I2⟩ := I'.new (o := .lst _) hfa
        exact q _ _ _ ((s.trans s').trans s2) I2 (.lst upd_same (dqa_rg _ _))
      · cases h
    · cases h
  ex X W c ρ c' h := by
    obtain ⟨d1, h1, h⟩ := vE_inv h
    obtain ⟨d2, h2, h⟩ := vE_inv h
    exact (map_exc h).elim
end
theorem G18 {α : Type} {s x0 x1 x2 x3 x4 x5 x6 x7 x8 x9 x10 x11 x12 x13 x14 x15 x16 x17 : α} {r : List α} : Get 18 s (x0 :: x1 :: x2 :: x3 :: x4 :: x5 :: x6 :: x7 :: x8 :: x9 :: x10 :: x11 :: x12 :: x13 :: x14 :: x15 :: x16 :: x17 :: s :: r) := .s G17
theorem G19 {α : Type} {s x0 x1 x2 x3 x4 x5 x6 x7 x8 x9 x10 x11 x12 x13 x14 x15 x16 x17 x18 : α} {r : List α} : Get 19 s (x0 :: x1 :: x2 :: x3 :: x4 :: x5 :: x6 :: x7 :: x8 :: x9 :: x10 :: x11 :: x12 :: x13 :: x14 :: x15 :: x16 :: x17 :: x18 :: s :: r) := .s G18
theorem G20 {α : Type} {s x0 x1 x2 x3 x4 x5 x6 x7 x8 x9 x10 x11 x12 x13 x14 x15 x16 x17 x18 x19 : α} {r : List α} : Get 20 s (x0 :: x1 :: x2 :: x3 :: x4 :: x5 :: x6 :: x7 :: x8 :: x9 :: x10 :: x11 :: x12 :: x13 :: x14 :: x15 :: x16 :: x17 :: x18 :: x19 :: s :: r) := .s G19
theorem G21 {α : Type} {s x0 x1 x2 x3 x4 x5 x6 x7 x8 x9 x10 x11 x12 x13 x14 x15 x16 x17 x18 x19 x20 : α} {r : List α} : Get 21 s (x0 :: x1 :: x2 :: x3 :: x4 :: x5 :: x6 :: x7 :: x8 :: x9 :: x10 :: x11 :: x12 :: x13 :: x14 :: x15 :: x16 :: x17 :: x18 :: x19 :: x20 :: s :: r) := .s G20
theorem G22 {α : Type} {s x0 x1 x2 x3 x4 x5 x6 x7 x8 x9 x10 x11 x12 x13 x14 x15 x16 x17 x18 x19 x20 x21 : α} {r : List α} : Get 22 s (x0 :: x1 :: x2 :: x3 :: x4 :: x5 :: x6 :: x7 :: x8 :: x9 :: x10 :: x11 :: x12 :: x13 :: x14 :: x15 :: x16 :: x17 :: x18 :: x19 :: x20 :: x21 :: s :: r) := .s G21
theorem G23 {α : Type} {s x0 x1 x2 x3 x4 x5 x6 x7 x8 x9 x10 x11 x12 x13 x14 x15 x16 x17 x18 x19 x20 x21 x22 : α} {r : List α} : Get 23 s (x0 :: x1 :: x2 :: x3 :: x4 :: x5 :: x6 :: x7 :: x8 :: x9 :: x10 :: x11 :: x12 :: x13 :: x14 :: x15 :: x16 :: x17 :: x18 :: x19 :: x20 :: x21 :: x22 :: s :: r) := .s G22
theorem G24 {α : Type} {s x0 x1 x2 x3 x4 x5 x6 x7 x8 x9 x10 x11 x12 x13 x14 x15 x16 x17 x18 x19 x20 x21 x22 x23 : α} {r : List α} : Get 24 s (x0 :: x1 :: x2 :: x3 :: x4 :: x5 :: x6 :: x7 :: x8 :: x9 :: x10 :: x11 :: x12 :: x13 :: x14 :: x15 :: x16 :: x17 :: x18 :: x19 :: x20 :: x21 :: x22 :: x23 :: s :: r) := .s G23
theorem G25 {α : Type} {s x0 x1 x2 x3 x4 x5 x6 x7 x8 x9 x10 x11 x12 x13 x14 x15 x16 x17 x18 x19 x20 x21 x22 x23 x24 : α} {r : List α} : Get 25 s (x0 :: x1 :: x2 :: x3 :: x4 :: x5 :: x6 :: x7 :: x8 :: x9 :: x10 :: x11 :: x12 :: x13 :: x14 :: x15 :: x16 :: x17 :: x18 :: x19 :: x20 :: x21 :: x22 :: x23 :: x24 :: s :: r) := .s G24
theorem G26 {α : Type} {s x0 x1 x2 x3 x4 x5 x6 x7 x8 x9 x10 x11 x12 x13 x14 x15 x16 x17 x18 x19 x20 x21 x22 x23 x24 x25 : α} {r : List α} : Get 26 s (x0 :: x1 :: x2 :: x3 :: x4 :: x5 :: x6 :: x7 :: x8 :: x9 :: x10 :: x11 :: x12 :: x13 :: x14 :: x15 :: x16 :: x17 :: x18 :: x19 :: x20 :: x21 :: x22 :: x23 :: x24 :: x25 :: s :: r) := .s G25
theorem G27 {α : Type} {s x0 x1 x2 x3 x4 x5 x6 x7 x8 x9 x10 x11 x12 x13 x14 x15 x16 x17 x18 x19 x20 x21 x22 x23 x24 x25 x26 : α} {r : List α} : Get 27 s (x0 :: x1 :: x2 :: x3 :: x4 :: x5 :: x6 :: x7 :: x8 :: x9 :: x10 :: x11 :: x12 :: x13 :: x14 :: x15 :: x16 :: x17 :: x18 :: x19 :: x20 :: x21 :: x22 :: x23 :: x24 :: x25 :: x26 :: s :: r) := .s G26
theorem G28 {α : Type} {s x0 x1 x2 x3 x4 x5 x6 x7 x8 x9 x10 x11 x12 x13 x14 x15 x16 x17 x18 x19 x20 x21 x22 x23 x24 x25 x26 x27 : α} {r : List α} : Get 28 s (x0 :: x1 :: x2 :: x3 :: x4 :: x5 :: x6 :: x7 :: x8 :: x9 :: x10 :: x11 :: x12 :: x13 :: x14 :: x15 :: x16 :: x17 :: x18 :: x19 :: x20 :: x21 :: x22 :: x23 :: x24 :: x25 :: x26 :: x27 :: s :: r) := .s G27
theorem G29 {α : Type} {s x0 x1 x2 x3 x4 x5 x6 x7 x8 x9 x10 x11 x12 x13 x14 x15 x16 x17 x18 x19 x20 x21 x22 x23 x24 x25 x26 x27 x28 : α} {r : List α} : Get 29 s (x0 :: x1 :: x2 :: x3 :: x4 :: x5 :: x6 :: x7 :: x8 :: x9 :: x10 :: x11 :: x12 :: x13 :: x14 :: x15 :: x16 :: x17 :: x18 :: x19 :: x20 :: x21 :: x22 :: x23 :: x24 :: x25 :: x26 :: x27 :: x28 :: s :: r) := .s G28
theorem G30 {α : Type} {s x0 x1 x2 x3 x4 x5 x6 x7 x8 x9 x10 x11 x12 x13 x14 x15 x16 x17 x18 x19 x20 x21 x22 x23 x24 x25 x26 x27 x28 x29 : α} {r : List α} : Get 30 s (x0 :: x1 :: x2 :: x3 :: x4 :: x5 :: x6 :: x7 :: x8 :: x9 :: x10 :: x11 :: x12 :: x13 :: x14 :: x15 :: x16 :: x17 :: x18 :: x19 :: x20 :: x21 :: x22 :: x23 :: x24 :: x25 :: x26 :: x27 :: x28 :: x29 :: s :: r) := .s G29
theorem G31 {α : Type} {s x0 x1 x2 x3 x4 x5 x6 x7 x8 x9 x10 x11 x12 x13 x14 x15 x16 x17 x18 x19 x20 x21 x22 x23 x24 x25 x26 x27 x28 x29 x30 : α} {r : List α} : Get 31 s (x0 :: x1 :: x2 :: x3 :: x4 :: x5 :: x6 :: x7 :: x8 :: x9 :: x10 :: x11 :: x12 :: x13 :: x14 :: x15 :: x16 :: x17 :: x18 :: x19 :: x20 :: x21 :: x22 :: x23 :: x24 :: x25 :: x26 :: x27 :: x28 :: x29 :: x30 :: s :: r) := .s G30
theorem G32 {α : Type} {s x0 x1 x2 x3 x4 x5 x6 x7 x8 x9 x10 x11 x12 x13 x14 x15 x16 x17 x18 x19 x20 x21 x22 x23 x24 x25 x26 x27 x28 x29 x30 x31 : α} {r : List α} : Get 32 s (x0 :: x1 :: x2 :: x3 :: x4 :: x5 :: x6 :: x7 :: x8 :: x9 :: x10 :: x11 :: x12 :: x13 :: x14 :: x15 :: x16 :: x17 :: x18 :: x19 :: x20 :: x21 :: x22 :: x23 :: x24 :: x25 :: x26 :: x27 :: x28 :: x29 :: x30 :: x31 :: s :: r) := .s G31
theorem G33 {α : Type} {s x0 x1 x2 x3 x4 x5 x6 x7 x8 x9 x10 x11 x12 x13 x14 x15 x16 x17 x18 x19 x20 x21 x22 x23 x24 x25 x26 x27 x28 x29 x30 x31 x32 : α} {r : List α} : Get 33 s (x0 :: x1 :: x2 :: x3 :: x4 :: x5 :: x6 :: x7 :: x8 :: x9 :: x10 :: x11 :: x12 :: x13 :: x14 :: x15 :: x16 :: x17 :: x18 :: x19 :: x20 :: x21 :: x22 :: x23 :: x24 :: x25 :: x26 :: x27 :: x28 :: x29 :: x30 :: x31 :: x32 :: s :: r) := .s G32
theorem G34 {α : Type} {s x0 x1 x2 x3 x4 x5 x6 x7 x8 x9 x10 x11 x12 x13 x14 x15 x16 x17 x18 x19 x20 x21 x22 x23 x24 x25 x26 x27 x28 x29 x30 x31 x32 x33 : α} {r : List α} : Get 34 s (x0 :: x1 :: x2 :: x3 :: x4 :: x5 :: x6 :: x7 :: x8 :: x9 :: x10 :: x11 :: x12 :: x13 :: x14 :: x15 :: x16 :: x17 :: x18 :: x19 :: x20 :: x21 :: x22 :: x23 :: x24 :: x25 :: x26 :: x27 :: x28 :: x29 :: x30 :: x31 :: x32 :: x33 :: s :: r) := .s G33
theorem G35 {α : Type} {s x0 x1 x2 x3 x4 x5 x6 x7 x8 x9 x10 x11 x12 x13 x14 x15 x16 x17 x18 x19 x20 x21 x22 x23 x24 x25 x26 x27 x28 x29 x30 x31 x32 x33 x34 : α} {r : List α} : Get 35 s (x0 :: x1 :: x2 :: x3 :: x4 :: x5 :: x6 :: x7 :: x8 :: x9 :: x10 :: x11 :: x12 :: x13 :: x14 :: x15 :: x16 :: x17 :: x18 :: x19 :: x20 :: x21 :: x22 :: x23 :: x24 :: x25 :: x26 :: x27 :: x28 :: x29 :: x30 :: x31 :: x32 :: x33 :: x34 :: s :: r) := .s G34
theorem G36 {α : Type} {s x0 x1 x2 x3 x4 x5 x6 x7 x8 x9 x10 x11 x12 x13 x14 x15 x16 x17 x18 x19 x20 x21 x22 x23 x24 x25 x26 x27 x28 x29 x30 x31 x32 x33 x34 x35 : α} {r : List α} : Get 36 s (x0 :: x1 :: x2 :: x3 :: x4 :: x5 :: x6 :: x7 :: x8 :: x9 :: x10 :: x11 :: x12 :: x13 :: x14 :: x15 :: x16 :: x17 :: x18 :: x19 :: x20 :: x21 :: x22 :: x23 :: x24 :: x25 :: x26 :: x27 :: x28 :: x29 :: x30 :: x31 :: x32 :: x33 :: x34 :: x35 :: s :: r) := .s G35
theorem G37 {α : Type} {s x0 x1 x2 x3 x4 x5 x6 x7 x8 x9 x10 x11 x12 x13 x14 x15 x16 x17 x18 x19 x20 x21 x22 x23 x24 x25 x26 x27 x28 x29 x30 x31 x32 x33 x34 x35 x36 : α} {r : List α} : Get 37 s (x0 :: x1 :: x2 :: x3 :: x4 :: x5 :: x6 :: x7 :: x8 :: x9 :: x10 :: x11 :: x12 :: x13 :: x14 :: x15 :: x16 :: x17 :: x18 :: x19 :: x20 :: x21 :: x22 :: x23 :: x24 :: x25 :: x26 :: x27 :: x28 :: x29 :: x30 :: x31 :: x32 :: x33 :: x34 :: x35 :: x36 :: s :: r) := .s G36
theorem G38 {α : Type} {s x0 x1 x2 x3 x4 x5 x6 x7 x8 x9 x10 x11 x12 x13 x14 x15 x16 x17 x18 x19 x20 x21 x22 x23 x24 x25 x26 x27 x28 x29 x30 x31 x32 x33 x34 x35 x36 x37 : α} {r : List α} : Get 38 s (x0 :: x1 :: x2 :: x3 :: x4 :: x5 :: x6 :: x7 :: x8 :: x9 :: x10 :: x11 :: x12 :: x13 :: x14 :: x15 :: x16 :: x17 :: x18 :: x19 :: x20 :: x21 :: x22 :: x23 :: x24 :: x25 :: x26 :: x27 :: x28 :: x29 :: x30 :: x31 :: x32 :: x33 :: x34 :: x35 :: x36 :: x37 :: s :: r) := .s G37
theorem G39 {α : Type} {s x0 x1 x2 x3 x4 x5 x6 x7 x8 x9 x10 x11 x12 x13 x14 x15 x16 x17 x18 x19 x20 x21 x22 x23 x24 x25 x26 x27 x28 x29 x30 x31 x32 x33 x34 x35 x36 x37 x38 : α} {r : List α} : Get 39 s (x0 :: x1 :: x2 :: x3 :: x4 :: x5 :: x6 :: x7 :: x8 :: x9 :: x10 :: x11 :: x12 :: x13 :: x14 :: x15 :: x16 :: x17 :: x18 :: x19 :: x20 :: x21 :: x22 :: x23 :: x24 :: x25 :: x26 :: x27 :: x28 :: x29 :: x30 :: x31 :: x32 :: x33 :: x34 :: x35 :: x36 :: x37 :: x38 :: s :: r) := .s G38
theorem G40 {α : Type} {s x0 x1 x2 x3 x4 x5 x6 x7 x8 x9 x10 x11 x12 x13 x14 x15 x16 x17 x18 x19 x20 x21 x22 x23 x24 x25 x26 x27 x28 x29 x30 x31 x32 x33 x34 x35 x36 x37 x38 x39 : α} {r : List α} : Get 40 s (x0 :: x1 :: x2 :: x3 :: x4 :: x5 :: x6 :: x7 :: x8 :: x9 :: x10 :: x11 :: x12 :: x13 :: x14 :: x15 :: x16 :: x17 :: x18 :: x19 :: x20 :: x21 :: x22 :: x23 :: x24 :: x25 :: x26 :: x27 :: x28 :: x29 :: x30 :: x31 :: x32 :: x33 :: x34 :: x35 :: x36 :: x37 :: x38 :: x39 :: s :: r) := .s G39
end Rl

/-! sorted(xs) of tuples, the first of which is empty: the sort takes the road of one type -/
namespace Rl
open PySem PySem.Spec PyProof.Rows L2 Dl
section
open PySem.W PySem.SeqAt PySem.Calls
theorem tupLt_call {A : Around} {s : Shared} {P : Program} {w : World} {E : Value → Shared → Prop} {Q : Value → Shared → Prop} {p q : Addr} {us vs : Array Value} {e r : Nat → Bool} (hp : s.heap.IsTuple p us) (hq : s.heap.IsTuple q vs)
    (he : ∀ j (h1 : j < us.size) (h2 : j < vs.size), EqAt A.in1 s us[j] vs[j] (e j)) (hr : ∀ j (h1 : j < us.size) (h2 : j < vs.size), e j = false → RcLt A.in1 s us[j] vs[j] (r j))
    (h : Q (.bool (firstLt e r (decide (us.size < vs.size)) (List.range (min us.size vs.size)))) s) : wpAny (model P w) A (call (.builtin "tuple.__lt__") [.ref p, .ref q]) Q E s := by
  obtain ⟨⟨c1, m1, d1, l1⟩, o1, rfl, n1, rfl⟩ := id hp
  obtain ⟨⟨c2, m2, d2, l2⟩, o2, rfl, n2, rfl⟩ := id hq
  exact call_meets F.slot_tuple_lt ⟨_, o1, rfl⟩ F.entry_tuple_lt (F.args_tuple_lt_2 _ _) (tuple_ltAt p q us vs n1 n2 m1 m2 l1 l2 e r) ⟨o1, o2, he, hr, h⟩
theorem oneLt_tup {P : Program} {w : World} {A : Around} {E : Value → Shared → Prop} {s : Shared} {xs ys : List PyData} {a b : Value} {as bs : List Addr} {Q : Bool → Shared → Prop} (ra : Reads s.heap a (.tuple xs) as) (rb : Reads s.heap b (.tuple ys) bs) (hal : alikeAll xs ys = true)
    (hu : A.units + min (PyData.tuple xs).depth (PyData.tuple ys).depth < cLine) (hq : Q (dataLt (.tuple xs) (.tuple ys)) s) : wpAny (model P w) A (oneLt' true a b) Q E s := by
  cases ra with
  | @tuple p o us n _ as₁ h1 h2 h3 h4 =>
    cases rb with
    | @tuple q o' vs n' _ bs₁ k1 k2 k3 k4 =>
      have n1 : us.size = xs.length := by simpa using ReadsAll.length _ _ _ h4
      have n2 : vs.size = ys.length := by simpa using ReadsAll.length _ _ _ k4
      rw [dataLt_tuple, ← firstLt_toks xs ys hal, ← n1, ← n2] at hq
      rw [oneLt'_eq]
      simp only [if_true]
      refine wpAny_bind (wpAny_cRoomFor (room_here hu) ?_)
      refine wpAny_bind (wpAny_callSpecialIfBound?_slot (T := "tuple") ⟨_, h1, h2⟩ F.slot_tuple_lt (tupLt_call (e := pairEq xs ys) (r := fun j => dataLt (xs.getD j .none) (ys.getD j .none)) ⟨_, h1, h2, _, h3⟩ ⟨_, k1, k2, _, k3⟩ (fun j j1 j2 => ?_) (fun j j1 j2 hj => ?_) ?_))
      · have := eqAt_alikeAll xs ys A.in1 s us.toList vs.toList _ _ h4 k4 hal (room_in hu) j (by simpa using j1) (by simpa using j2)
        simpa using this
      · have := rcLt_alikeAll xs ys A.in1 s us.toList vs.toList _ _ h4 k4 hal (room_in hu) j (by simpa using j1) (by simpa using j2) hj
        simpa using this
      · exact wpAny_truthy_bool hq
/-- what is first in each of the tuples -/
theorem firsts_any {M : Model} {A : Around} {E : Value → Shared → Prop} {s : Shared} : ∀ {us : List Value} {ds : List PyData} {Q : List (Option Value) → Shared → Prop}, EachIs (fun v d => ∃ as, Reads s.heap v d as) us ds → (∀ d ∈ ds, ∃ xs, d = .tuple xs) → (∀ os : List (Option Value), (∀ ds', ds = .tuple [] :: ds' → ∃ r, os = none :: r) → Q os s) → wpAny M A (us.mapM firstOfTuple') Q E s
  | _, _, Q, .nil, _, h => by rw [List.mapM_nil]; exact wpAny_pure (h [] fun ds' e => by cases e)
  | _, _, Q, .cons (b := d) ⟨as, r⟩ t, ht, h => by
    obtain ⟨xs, rfl⟩ := ht d (List.mem_cons_self ..)
    cases r with
    | @tuple a o us n _ _ ho hc hd hr =>
      rw [List.mapM_cons]
      refine wpAny_bind ?_
      rw [kas_first_eq]
      refine wpAny_bind (Looks.here (show Looks M s.heap (typeOf (.ref a)) o.cls from (Looks.ld ho).andThen .now) ?_)
      rw [hc, if_neg (by first | decide | simp)]
      refine wpAny_bind (listItems_at ho hd (wpAny_pure ?_))
      refine wpAny_bind (firsts_any t (fun d hd => ht d (List.mem_cons_of_mem _ hd)) fun os _ => wpAny_pure (h _ fun ds' e => ?_))
      cases e
      have : us.size = 0 := by simpa using SeqAt.ReadsAll.length _ _ _ hr
      exact ⟨os, by rw [Array.getElem?_eq_none (by omega)]⟩
theorem kind_e {M : Model} {A : Around} {E : Value → Shared → Prop} {s : Shared} {us : List Value} {ds : List PyData} {Q : SortKind → Shared → Prop} (h2 : 2 ≤ us.length) (e : EachIs (fun v d => ∃ as, Reads s.heap v d as) us (.tuple [] :: ds)) (ht : ∀ d ∈ ds, ∃ xs, d = .tuple xs) (h : Q oneType' s) : wpAny M A (keyKind' us.toArray) Q E s := by
  have ht' : ∀ d ∈ PyData.tuple [] :: ds, ∃ xs, d = .tuple xs := fun d hd => by
    rcases List.mem_cons.mp hd with z | z
    · exact ⟨[], z⟩
    · exact ht d z
  rw [keyKind'_eq, List.mapM_toArray, map_eq_pure_bind]
  refine wpAny_bind (wpAny_bind (firsts_any e ht' fun os ho => wpAny_pure ?_))
  obtain ⟨r, rfl⟩ := ho ds rfl
  rw [if_neg (by simp), if_neg (by simp)]
  rw [oneTypeOnly'_eq, List.mapM_toArray, map_eq_pure_bind]
  refine wpAny_bind (wpAny_bind (wpAny_bind (kas_mapM (r := Value.type "tuple") _ (fun v hv Q' hq => ?_) (wpAny_pure ?_))))
  · obtain ⟨d, hd, as, r1⟩ := e.left v hv
    obtain ⟨xs, rfl⟩ := ht' d hd
    exact (looks_reads r1).here hq
  · have hall : ((us.map fun _ => Value.type "tuple").toArray.all fun x => x == Value.type "tuple") = true := by
      simp only [List.all_toArray, List.all_map, List.all_eq_true]
      intro _ _
      exact beq_self_eq_true _
    have h0 : (us.map fun _ => Value.type "tuple").toArray[0]? = some (Value.type "tuple") := by
      cases us with
      | nil => cases h2
      | cons u us => simp
    rw [h0]
    simp only [hall, if_true]
    exact wpAny_pure (wpAny_pure h)
/-- tuples, the first of which is empty, can be sorted -/
theorem sorts_e {P : Program} {w : World} {A : Around} {s : Shared} {us : List Value} {ds : List PyData} (e : EachIs (fun v d => ∃ as, Reads s.heap v d as) us (.tuple [] :: ds)) (hal : AllAlike (.tuple [] :: ds)) (ht : ∀ d ∈ ds, ∃ xs, d = .tuple xs) (hu : ∀ d ∈ PyData.tuple [] :: ds, A.units + d.depth < cLine) : SortsAt P w A s (dataKind s.heap (.tuple [] :: ds)) us := by
  have ht' : ∀ d ∈ PyData.tuple [] :: ds, ∃ xs, d = .tuple xs := fun d hd => by
    rcases List.mem_cons.mp hd with z | z
    · exact ⟨[], z⟩
    · exact ht d z
  refine ⟨fun v hv => ?_, oneType', ?_, fun h2 E Q hq => kind_e h2 e ht hq⟩
  · obtain ⟨d, hd, as, r⟩ := e.left v hv
    exact ⟨_, dataKind_some hal hd r⟩
  · intro E x y a b Q ha hb hq
    obtain ⟨d, as, hd, ra, rfl⟩ := dataKind_inv ha
    obtain ⟨d', as', hd', rb, rfl⟩ := dataKind_inv hb
    have hdd := hal d hd d' hd'
    have hroom : A.units + min d.depth d'.depth < cLine := Nat.lt_of_le_of_lt (Nat.add_le_add_left (Nat.min_le_left _ _) _) (hu d hd)
    obtain ⟨xs, rfl⟩ := ht' d hd
    obtain ⟨ys, rfl⟩ := ht' d' hd'
    rw [keyLt'_oneType]
    exact oneLt_tup ra rb (by simpa [alike] using hdd) hroom hq
theorem each_but {β : Type} {enc : β → PyData} {h h' : Heap} {a : Addr} {us : List Value} {bs : List β} (k : ∀ b o, b ≠ a → h.get? b = some o → h'.get? b = some o) (ha : ∀ o, h.get? a = some o → o.cls = .type "list") (hal : AllAlike (bs.map enc)) (er : EachIs (fun v b => ∃ as, Reads h v (enc b) as ∧ a ∉ as) us bs) :
    EachIs (fun v b => ∃ as, Reads h' v (enc b) as) us bs := each_keepBut k ha hal er
/-- sorted of a list or tuple of tuples, the first of which is empty -/
theorem sorted_colE {β : Type} {P : Program} {w : World} {A : Around} {E : Value → Shared → Prop} {s : Shared} {R : Value → β → Prop} {enc : β → PyData} {v : Value} {bs : List β} {ds : List PyData} {Q : Value → Shared → Prop} (hb : bs.map enc = .tuple [] :: ds) (hal : AllAlike (bs.map enc)) (ht : ∀ d ∈ ds, ∃ xs, d = .tuple xs) (hL : bs.length ≤ sizeLine) (hu : ∀ b, b ∈ bs → A.units + 10 + (enc b).depth < cLine)
    (hcol : ∀ Q' : List Value → Shared → Prop, (∀ s1 vs, (∀ b o, s.heap.get? b = some o → s1.heap.get? b = some o) → s1.gens = s.gens → s1.os = s.os → EachIs R vs bs → EachIs (fun v b => ∃ as, Reads s1.heap v (enc b) as) vs bs → Q' vs s1) → wpAny (model P w) A.in1 (collect v) Q' E s)
    (hQ : ∀ (s' : Shared) (p : Addr) (out : List Value) (c : Nat), (∀ b o, s.heap.get? b = some o → s'.heap.get? b = some o) → s'.gens = s.gens → s'.os = s.os → (∃ h1 : Heap, (∀ b o, s.heap.get? b = some o → h1.get? b = some o) ∧ h1.objs.size ≤ p) → s'.heap.get? p = some (seqObj "list" out.toArray c) → EachIs R out (bs.mergeSort (dataLe false enc)) → Q (.ref p) s') :
    wpAny (model P w) A (call (.builtin "sorted") [v]) Q E s := by
  refine Calls.call_function_entry kind_sorted plain_sorted entry_sorted (args_sorted1 _) ?_
  unfold Builtin.«sorted»
  refine wpAny_bind (m := checkCount "sorted" 1 1 _) (wpAny_pure ?_)
  refine wpAny_bind (hcol _ fun s1 vs k1 g1 o1 e er => ?_)
  have hvl : vs.length = bs.length := e.length
  refine wpAny_bind (wpAny_newList ?_ (by rw [hvl]; exact hL))
  have hoL : (s1.heap.push (seqObj "list" vs.toArray 0)).get? s1.heap.objs.size = some (seqObj "list" vs.toArray 0) := Heap.get?_push_size _ rfl
  have hin : ∀ {v : Value} {d : PyData} {as : List Addr}, Reads s1.heap v d as → s1.heap.objs.size ∉ as := fun {v d as} r hm => by
    obtain ⟨o, ho⟩ := reads_alive r _ hm
    exact absurd (Heap.lt_size ho) (Nat.lt_irrefl _)
  have er2 : EachIs (fun v b => ∃ as, Reads (s1.heap.push (seqObj "list" vs.toArray 0)) v (enc b) as ∧ s1.heap.objs.size ∉ as) vs bs := er.mono fun _ _ ⟨as, r⟩ => ⟨as, PyProof.Rows.Reads.keeps (fun _ _ q => Heap.get?_push_of_some _ q) r, hin r⟩
  have er3 : EachIs (fun v b => ∃ as, Reads (sortingHeap (s1.heap.push (seqObj "list" vs.toArray 0)) s1.heap.objs.size vs) v (enc b) as) vs bs := each_but (fun _ _ hb q => sortingHeap_old hb q) (fun o q => by rw [hoL] at q; rw [← Option.some.inj q]) hal er2
  have hS : SortsAt P w A.in1.in1 { s1 with heap := sortingHeap (s1.heap.push (seqObj "list" vs.toArray 0)) s1.heap.objs.size vs } (dataKind (sortingHeap (s1.heap.push (seqObj "list" vs.toArray 0)) s1.heap.objs.size vs) (bs.map enc)) vs := by
    have e4 := each_map (R := fun v d => ∃ as, Reads (sortingHeap (s1.heap.push (seqObj "list" vs.toArray 0)) s1.heap.objs.size vs) v d as) enc er3
    rw [hb] at e4 hal ⊢
    refine sorts_e e4 hal ht fun d hd => ?_
    rw [← hb] at hd
    obtain ⟨b, hb1, rfl⟩ := List.mem_map.mp hd
    have h1 := hu b hb1
    have h2 : A.in1.in1.units = A.units + 2 := rfl
    omega
  refine wpAny_bind (wpAny_holding ?_)
  refine wpAny_call_entry slot_list_sort ⟨_, hoL, rfl⟩ entry_list_sort (list_sort_vals (κ := dataKind (sortingHeap (s1.heap.push (seqObj "list" vs.toArray 0)) s1.heap.objs.size vs) (bs.map enc)) hoL hS (by rw [hvl]; exact hL) ⟨.none, rfl, ?_⟩) (args_list_sort _)
  have eo := sortVals_data false e er3 hal
  obtain ⟨c, hc⟩ := sortedHeap_at (vs := vs) (out := (sortVals (dataKind (sortingHeap (s1.heap.push (seqObj "list" vs.toArray 0)) s1.heap.objs.size vs) (bs.map enc)) false vs vs).toArray) hoL
  refine wpAny_pure ⟨_, rfl, hQ _ s1.heap.objs.size _ c (fun b u eb => ?_) g1 o1 ⟨s1.heap, k1, Nat.le_refl _⟩ hc eo⟩
  have q := k1 b u eb
  have hlt := Heap.lt_size q
  show (sortedHeap (s1.heap.push (seqObj "list" vs.toArray 0)) s1.heap.objs.size vs _).get? b = some u
  rw [sortedHeap_old (Nat.ne_of_lt hlt) (by rw [size_push']; exact Nat.lt_succ_of_lt hlt)]
  exact Heap.get?_push_of_some _ q
def allTup (ds : List PyData) : Bool := ds.all fun d => match d with
  | .tuple _ => true
  | _ => false
theorem allTup_is {ds : List PyData} (h : allTup ds = true) : ∀ d ∈ ds, ∃ xs, d = .tuple xs := fun d hd => by
  have := List.all_eq_true.mp h d hd
  cases d <;> first | exact ⟨_, rfl⟩ | cases this
def rSortE (K : PySem.W.Frag) : List V → Hp → VK → Prop := fun vs H Q => ∃ (a : Addr) (xs : List V) (ds : List PyData), vs = [.ref a] ∧ (SqL K H a xs ∨ SqT K H a xs) ∧ L2.DpAll K H xs (.tuple [] :: ds) ∧ AllAlike (.tuple [] :: ds) ∧ allTup ds = true ∧ (∀ d ∈ PyData.tuple [] :: ds, PyData.depth d ≤ 64) ∧
  ∀ p, H p = none → Q (.ref p) (upd H p (.lst (((xs.zip (.tuple [] :: ds)).mergeSort (dataLe false Prod.snd)).map (·.1))))
theorem cr_sortE {X : Cx} (hun : X.A.units + 200 < cLine) : CallR X (.builtin "sorted") (rSortE X.K) := by
  intro pins s σ H vs us Q I r h
  obtain ⟨a, xs, ds, rfl, hs, hd, hal, hk, hdep, q⟩ := h
  rw [Vals.ref1 r]
  have hlen := dpAll_len hd
  have hz := zip_snd hlen
  have hob : ∃ (its : List Value) (o : Obj) (T : String) (n : Nat), Vals xs its ∧ (T = "list" ∨ T = "tuple") ∧ s.heap.get? a = some o ∧ o.cls = .type T ∧ o.data = .seq its.toArray n ∧ xs.length ≤ sizeLine := by
    rcases hs with hs | hs
    · obtain ⟨its, rv, pl, hl⟩ := I.list hs
      obtain ⟨o, ho, hc, n, hd⟩ := pl.isList
      exact ⟨its, o, "list", n, rv, .inl rfl, ho, hc, hd, hl⟩
    · obtain ⟨its, rv, ⟨o, ho, hc, n, hd⟩, hl⟩ := I.tuple hs
      exact ⟨its, o, "tuple", n, rv, .inr rfl, ho, hc, hd, hl⟩
  obtain ⟨its, o, T, n, rv, hT, ho, hc, hdt, hl⟩ := hob
  have hzl : (xs.zip (PyData.tuple [] :: ds)).length = xs.length := by rw [List.length_zip, hlen, Nat.min_self]
  refine sorted_colE (R := fun u (b : V × PyData) => RelV b.1 u) (enc := Prod.snd) (bs := xs.zip (.tuple [] :: ds)) (ds := ds) hz (by rw [hz]; exact hal) (allTup_is hk) (by rw [hzl]; exact hl)
    (fun b hb => by have := hdep b.2 (by rw [← hz]; exact List.mem_map.mpr ⟨b, hb, rfl⟩); omega) (fun Q' hq => ?_) (fun s' p out c k g o1 hp hg eo => ?_)
  · refine wpAny_collect_seq a hT ho hc hdt (fun h' k => ?_) (by rw [List.size_toArray, ← rv.length]; exact hl)
    rw [List.toList_toArray]
    have J : EachIs (fun v (b : V × PyData) => ∃ as, Reads h' v b.2 as) its (xs.zip (.tuple [] :: ds)) := (each_reads I rv hd).mono fun _ _ ⟨as, r⟩ => ⟨as, PyProof.Rows.Reads.keeps k r⟩
    exact hq _ its k rfl rfl (each_vals rv hlen) J
  · obtain ⟨h1, k1, hp1⟩ := hp
    have hn : H p = none := (I.hok.kept k1).fresh hp1
    have hq : s.heap.get? p = none := by
      cases e : s.heap.get? p with
      | none => rfl
      | some u => exact absurd (Nat.lt_of_lt_of_le (Heap.lt_size (k1 p u e)) hp1) (Nat.lt_irrefl _)
    have hol : (((xs.zip (PyData.tuple [] :: ds)).mergeSort (dataLe false Prod.snd)).map (·.1)).length ≤ sizeLine := by rw [List.length_map, List.length_mergeSort, hzl]; exact hl
    have J : Inv X pins σ (upd H p (.lst (((xs.zip (.tuple [] :: ds)).mergeSort (dataLe false Prod.snd)).map (·.1)))) { s with heap := s'.heap, gens := s'.gens, drawn := s'.drawn, toks := s'.toks } :=
      I.call (ch := []) (un_laid k hq hn) (hok_laid I.hok k hn ⟨hol, out, c, vals_each eo, hg⟩) (by rw [g]; exact I.bare) (fun _ z => nomatch z)
    have e : s' = { s with heap := s'.heap, gens := s'.gens, drawn := s'.drawn, toks := s'.toks } := by
      cases s'
      cases s
      cases o1
      rfl
    rw [e]
    exact ⟨.ref p, _, J, rfl, q p hn⟩
def okSortE (ds : List PyData) : Bool := ((PyData.tuple [] :: ds).all fun a => (PyData.tuple [] :: ds).all fun b => alike a b) && allTup ds && ((PyData.tuple [] :: ds).all fun d => decide (PyData.depth d ≤ 64)) && PyData.canLayAll0 (.tuple [] :: ds)
variable {M : Md} {N : List Str} {sc : Sco} {X : Cx} {k : Nat}
theorem cl_sort_e {ds : List PyData} (c : Cv M N sc X) (h : okSortE ds = true) : Cl M X (.builtin "sorted") [.list (.tuple [] :: ds)] (.list (sortD (.tuple [] :: ds))) := ⟨_, cr_sortE c.un, fun B F σ H ρ vs I p Q q => by
  unfold okSortE at h
  simp only [Bool.and_eq_true] at h
  obtain ⟨v, rfl, p1⟩ := inv_all1 p
  cases p1 with
  | lst s al => exact ⟨_, _, ds, rfl, .inl (SqL.of (I.bh _ _ s)), by rw [c.eK]; exact dqa_dp (dpa_mono I.bh al) h.2, fun d hd d' hd' => List.all_eq_true.mp (List.all_eq_true.mp h.1.1.1 d hd) d' hd', h.1.1.2, fun d hd => of_decide_eq_true (List.all_eq_true.mp h.1.2 d hd), fun a ha => by
      obtain ⟨s2, I2⟩ := I.new (o := .lst _) ha
      exact q _ _ _ s2 I2 (.lst upd_same (dpa_mono s2 (dqa_sort al)))⟩⟩
def fSortedE : List PyData → Option PyData
  | [.list (.tuple [] :: ds)] => if okSortE ds = true then some (.list (sortD (.tuple [] :: ds))) else none
  | _ => none
theorem ok_sortedE : OkCl M k N (.builtin "sorted") fSortedE := fun sc X W c ds d h => by
  unfold fSortedE at h
  split at h
  · split at h
    · cases h; exact cl_sort_e c.toCv (by assumption)
    · cases h
  · cases h
end
end Rl

/-! try: .. except T as e: more than one statement, of e and names that it sets itself -/
namespace Rl
open PySem PySem.Spec PyProof.Rows L2 Dl
section
variable {M : Md} {N : List Str} {sc : Sco} {xa : Nat → Addr} {k i : Nat} {x : Str} {pos : Pos} {body : List Stmt} {s : RS}
def sTryH (i n : Nat) (w : Nat → Option PyData) (s : RS) : RS := fun ρ => match s ρ with
  | some (.ex c ρ') => if i < ρ'.length ∧ ρ'.length = n then (w c).map fun d => .rt d (List.replicate n .no) else none
  | r => r
theorem le_no {n : Nat} {r : List Sl} (h : r.length = n) : Le (List.replicate n .no) r := ⟨by rw [List.length_replicate, h], fun j s hs => .inl (by
  rw [List.getElem?_replicate] at hs
  split at hs
  · cases hs; rfl
  · cases hs)⟩
theorem le_one {n i : Nat} {v : Sl} {r : List Sl} (h : r.length = n) (hi : i < n) : Le ((List.replicate n .no).set i v) (r.set i v) := ⟨by rw [List.length_set, List.length_set, List.length_replicate, h], fun j s hs => by
  by_cases e : i = j
  · subst e
    rw [List.getElem?_set_self (by rw [List.length_replicate]; exact hi)] at hs
    cases hs
    exact .inr (List.getElem?_set_self (by omega))
  · rw [List.getElem?_set_ne e, List.getElem?_replicate] at hs
    split at hs
    · cases hs; exact .inl rfl
    · cases hs⟩
theorem ss_tryH {n : Str} {nn : Nat} {T : Addr} {np pos' : Pos} {w : Nat → Option PyData} {b₀ : Stmt} {suite : List Stmt} (hi : Get i n N) (hT : M.mg x = some (.ref T))
    (hc : ∀ c d, w c = some d → PySem.W.exmOne M.K (.ref (xa c)) (.ref T) = some true ∧ ∀ X a, Hx M k N sc X a (xa c) → DB M X Wf (b₀ :: suite) ((List.replicate nn .no).set i (.r (.ref a))) (fun _ => False) { rt := fun d' r => d' = d ∧ r.length = nn })
    (hb : SB M k N xa sc false body s) (hln : sc.rd.names.lookup n = some .local := by decide +kernel) (hg : (glB sc x && okN x) = true := by decide +kernel) :
    SS M k N xa sc true (.Try body [.ExceptHandler (some (.Name x np)) (some n) (b₀ :: suite) pos'] [] [] pos) (sTryH i nn w s) := ⟨fun X W c t ρ r hh => by
  unfold sTryH at hh
  cases e1 : s ρ with
  | none => rw [e1] at hh; cases hh
  | some r1 =>
    rw [e1] at hh
    refine ds_tryAs c (t rfl) hi hT (fun C ρ' => ∃ c1, C = xa c1 ∧ r1 = .ex c1 ρ') (fun X' W' c' => ?_) (fun C ρ' hm => ?_) hln hg
    · refine db_weak (hb.ok X' W' c' (fun z => by cases z) ρ r1 e1) ?_ ?_ ?_ ?_ ?_
      · rintro ρ2 rfl; cases hh; rfl
      · intro d2 ρ2 z; cases (show r1 = .rt d2 ρ2 from z); cases hh; rfl
      · rintro C ρ2 ⟨c2, rfl, z⟩; exact ⟨c2, rfl, z⟩
      · intro ρ2 z; cases (show r1 = .bk ρ2 from z); cases hh; rfl
      · intro ρ2 z; cases (show r1 = .ct ρ2 from z); cases hh; rfl
    · obtain ⟨c1, rfl, rfl⟩ := hm
      dsimp only at hh
      split at hh
      · rename_i hlt
        cases hw : w c1 with
        | none => rw [hw] at hh; cases hh
        | some d =>
          rw [hw] at hh
          cases hh
          obtain ⟨h1, h2⟩ := hc c1 d hw
          refine ⟨true, h1, fun _ X' a hx => ?_, fun z => by cases z⟩
          refine ⟨ρ'.set i (.r (.ref a)), setAt_lt hlt.1, fun B F σ H I E f => ?_⟩
          refine h2 X' a hx B F σ H (I.le (le_one hlt.2 (by omega))) E ⟨fun _ _ _ _ z => z.elim, fun d' r v σ' H' B' z s' I' p => ?_, fun _ _ _ _ _ z => z.elim, fun _ _ _ _ z => z.elim, fun _ _ _ _ z => z.elim⟩
          obtain ⟨rfl, hl⟩ := z
          exact f.rt d' (List.replicate nn .no) v σ' H' B' rfl s' (I'.le (le_no hl)) p
      · cases hh⟩
def tryHK (i n : Nat) (w : Nat → Option PyData) (o : Option Res) : Option Res := match o with
  | some (.ex c ρ') => if i < ρ'.length ∧ ρ'.length = n then (w c).map fun d => .rt d (List.replicate n .no) else none
  | r => r
theorem e_tryH {n : Nat} {w : Nat → Option PyData} {s : RS} {ρ : List Sl} : sTryH i n w s ρ = tryHK i n w (s ρ) := rfl
theorem tryHK_rt {n : Nat} {w : Nat → Option PyData} {d : PyData} {ρ : List Sl} : tryHK i n w (some (.rt d ρ)) = some (.rt d ρ) := rfl
theorem tryHK_nx {n : Nat} {w : Nat → Option PyData} {ρ : List Sl} : tryHK i n w (some (.nx ρ)) = some (.nx ρ) := rfl
theorem tryHK_ex {n c : Nat} {w : Nat → Option PyData} {d : PyData} {ρ : List Sl} (h : i < ρ.length ∧ ρ.length = n) (hw : w c = some d) : tryHK i n w (some (.ex c ρ)) = some (.rt d (List.replicate n .no)) := by
  unfold tryHK
  dsimp only
  rw [if_pos h, hw]
  rfl
end
end Rl

/-! dicts that a slot owns, whose keys are tuples of ints and texts -/
namespace Rl
open PySem PySem.Spec PyProof.Rows L2 Dl
theorem EnvB.otdict {K : PySem.W.Frag} {B F H : Hp} {σ : L2.St} {ρ : List Sl} {i : Nat} {kvs : List (List Key × PyData)} (I : EnvB K B F H σ ρ) (hg : Get i (.ot kvs) ρ) :
    ∃ l ys, σ[i]? = some (some (.ref l)) ∧ H l = some (.dT ys) ∧ KDp K B ys kvs ∧ ∀ ys' kvs', KDp K B ys' kvs' → EnvB K B F (upd H l (.dT ys')) σ (ρ.set i (.ot kvs')) := by
  have hi := hg.at
  obtain ⟨O, h1, h2⟩ := I.own
  rcases h2 i _ hi with z | ⟨x, hx, l, xs, e1, e2, e3, e4⟩
  · cases z
  · subst e1
    refine ⟨l, xs, hx, e3, e4, fun xs' ds' hd => ?_⟩
    obtain ⟨q1, q2, q3⟩ := h1 l _ e2
    refine ⟨by rw [List.length_set, I.ln], fun a u e => ?_, fun a u e => ?_, I.dj, O, fun a t e => ?_, fun j s hs => ?_⟩
    · rw [upd_ne (ne_of_none e q1)]; exact I.bh a u e
    · rw [upd_ne (ne_of_none e q2)]; exact I.fh a u e
    · refine ⟨(h1 a t e).1, (h1 a t e).2.1, ?_⟩
      by_cases ha : a = l
      · rw [ha, upd_same]; simp
      · rw [upd_ne ha]; exact (h1 a t e).2.2
    · by_cases hj : i = j
      · subst hj
        have hl : i < ρ.length := (List.getElem?_eq_some_iff.mp hi).1
        rw [List.getElem?_set_self hl] at hs
        cases hs
        exact .inr ⟨.ref l, hx, l, xs', rfl, e2, upd_same, hd⟩
      · rw [List.getElem?_set_ne hj] at hs
        rcases h2 j s hs with z | ⟨x, hx, hh⟩
        · exact .inl z
        · refine .inr ⟨x, hx, hold_mono (Same.refl B) (fun a t e => ⟨e, upd_ne fun z => ?_⟩) hh⟩
          subst z
          rw [e2] at e
          injection e with e
          injection e with e _
          exact hj e
theorem keysD_inv {K : PySem.W.Frag} {B : Hp} : ∀ {ks : List Key} {vs : List V}, DqAll K B vs (ks.map Dl.keyD) → vs = ks.map kV
  | [], _, .nil => rfl
  | q :: ks, _, h => by
    have h' : DqAll K B _ (Dl.keyD q :: ks.map Dl.keyD) := h
    cases h' with
    | cons h1 h2 => rw [keyD_inv h1, keysD_inv h2]; rfl
theorem dqa_kV {K : PySem.W.Frag} {B : Hp} : ∀ ks : List Key, DqAll K B (ks.map kV) (ks.map Dl.keyD)
  | [] => .nil
  | .inl n :: ks => .cons (.int n) (dqa_kV ks)
  | .inr x :: ks => .cons (.str x) (dqa_kV ks)
section
variable {M : Md} {X : Cx} {W : WX} {N : List Str} {sc : Sco} {k : Nat} {ρ ρ' : List Sl} {d : PyData} {a b : Expr} {es : List Expr} {pos p2 p3 p4 : Pos} {x : Str} {i x1 : Nat} {nx : List Sl → Prop} {R : REnds} {kvs : List (List Key × PyData)} {ks : List Key}
theorem ds_dnewT (c : Cv M N sc X) (hi : Get i x N) (hr : SetAt i (.ot []) ρ ρ') (hn : nx ρ') (hl : locB sc x = true := by decide +kernel) : DS M X W (.Assign [.Name x p2] (.Dict [] [] p3) pos) ρ nx R :=
  ds_of (ps_set (by rw [c.hN]; exact c.nd) (by rw [c.hN]; exact hi.at) (c.loc hl).1 pe_dnewT rfl (c.loc hl).2) fun B F σ H I E f => fun p hp => by
    refine f.nx _ _ _ B hn (Same.refl B) ?_
    rw [← hr.eq.1]
    exact EnvB.seto (o := .dT []) (I.lay hp) (I.fh.free hp) (fun O hO => ⟨p, [], rfl, hO, upd_same, .nil⟩) hr.eq.2
theorem ds_dputT (c : Cv M N sc X) (hi : Get i x N) (hd : Get i (.ot kvs) ρ) (ha : DA M X es ρ (ks.map Dl.keyD)) (hb : DE M X b ρ d) (hr : SetAt i (.ot (putD kvs ks d)) ρ ρ') (hz : kvs.length < 10000000) (hk1 : ks.length ≤ 1000) (hn : nx ρ') (hs : swapsWith b (some (.Subscript (.Name x p2) (.Tuple es x1 p4) p3)) pos.line X.env = pure false := by rfl) (hv : (visB sc x && okN x) = true := by decide +kernel) :
    DS M X W (.Assign [.Subscript (.Name x p2) (.Tuple es x1 p4) p3] b pos) ρ nx R := by
  rw [Bool.and_eq_true] at hv
  refine ds_of (ps_dput (by have := c.un; omega) (pe_var (i := i) (by rw [c.hN]; exact hi.at) (c.vis hv.1) (okN1 hv.2) (okN2 hv.2)) (pe_tup pa_sem) pe_sem hs) fun B F σ H I E f => ?_
  refine hb B F σ H I _ fun v H1 B1 s1 I1 p1 => ?_
  obtain ⟨l0, _, h0, _⟩ := EnvB.otdict I1 hd
  refine ⟨.ref l0, h0, ha B1 F σ H1 I1 _ fun vs H2 B2 s2 I2 p2 => ?_⟩
  have ev := keysD_inv p2
  refine ⟨by rw [ev, List.length_map]; have h3 : sizeLine = 16777216 := sizeLine_eq; omega, fun q hq => ?_⟩
  have I3 := EnvB.idle (o := .tup vs) I2 hq
  obtain ⟨l, ys, hσ, hl, hk, hm⟩ := EnvB.otdict I3 hd
  rw [h0] at hσ
  cases hσ
  refine ⟨l0, _, rfl, DPut.t (k := ks) hl (by rw [← ev]; exact upd_same) (by rw [kdp_len hk]; have h3 : sizeLine = 16777216 := sizeLine_eq; omega), f.nx _ _ _ B2 hn (s1.trans s2) ?_⟩
  rw [← hr.eq.1]
  exact hm _ _ (kdp_put hk (dp_mono s2 p1))
end
/-! sorted(d) -/
section
open PySem.W
def tD (ks : List Key) : PyData := .tuple (ks.map Dl.keyD)
def rSortT (K : PySem.W.Frag) : List V → Hp → VK → Prop := fun vs H Q => ∃ (a : Addr) (kvs : List (List Key × V)), vs = [.ref a] ∧ Rd H a (.dT kvs) ∧ AllAlike (kvs.map fun kv => tD kv.1) ∧ Sortable (kvs.map fun kv => tD kv.1) ∧ (∀ d ∈ kvs.map fun kv => tD kv.1, PyData.depth d ≤ 64) ∧ PyData.canLayAll0 (kvs.map fun kv => tD kv.1) = true ∧
  ∀ p bs, H p = none → IsKeys H kvs bs → Q (.ref p) (upd H p (.lst ((((bs.map V.ref).zip (kvs.map fun kv => tD kv.1)).mergeSort (dataLe false Prod.snd)).map (·.1))))
theorem keys_dq {K : PySem.W.Frag} {H : Hp} {kvs : List (List Key × V)} {bs : List Addr} (h : IsKeys H kvs bs) : DqAll K H (bs.map V.ref) (kvs.map fun kv => tD kv.1) := by
  unfold IsKeys at h
  induction h with
  | nil => exact .nil
  | cons e t ih => exact .cons (.tup (.inl (.inl e)) (dqa_kV _)) ih
theorem cr_sortT {X : Cx} (hc : X.calm = true) (hun : X.A.units + 200 < cLine) : CallR X (.builtin "sorted") (rSortT X.K) := by
  intro pins s σ H vs us Q I r h
  obtain ⟨d, kvs, rfl, hd, hal, hk, hdep, hlay, q⟩ := h
  obtain ⟨u, rfl, rx⟩ := r.one
  cases rx
  obtain ⟨z, hs, ks, pr, o, es, ep, ho, hx, hdt, he, hn⟩ := (show ObjOk X.prog X.w H s.heap d (.dT kvs) from hd.ok I.hok)
  have l1 : es.size = ks.length := size_of_entries he
  have l2 : kvs.length = ks.length := Paired.length pr
  have hik := isKeys_of pr
  have hdq := keys_dq (K := X.K) hik
  have hdp : L2.DpAll X.K H ((ks.map fun x => x.2.1).map V.ref) (kvs.map fun kv => tD kv.1) := dqa_dp hdq hlay
  have hlen := dpAll_len hdp
  have hz := zip_snd hlen
  have rv : Vals ((ks.map fun x => x.2.1).map V.ref) ((ks.map fun x => x.2.1).map Value.ref) := L2.vals_refs _
  have hzl : (((ks.map fun x => x.2.1).map V.ref).zip (kvs.map fun kv => tD kv.1)).length = ks.length := by rw [List.length_zip, hlen, Nat.min_self, List.length_map]; exact l2
  refine sorted_col (fun bs' => bs' = ((ks.map fun x => x.2.1).map V.ref).zip (kvs.map fun kv => tD kv.1)) (R := fun u (b : V × PyData) => RelV b.1 u) (enc := Prod.snd) (bs := ((ks.map fun x => x.2.1).map V.ref).zip (kvs.map fun kv => tD kv.1)) (by rw [hz]; exact hal) (by rw [hz]; exact hk) (by rw [hzl]; omega)
    (fun b hb => by have := hdep b.2 (by rw [← hz]; exact List.mem_map.mpr ⟨b, hb, rfl⟩); omega) (fun Q' hq => ?_) (fun s' p out c bs' kp g o1 hp hg pm ez eo => ?_)
  · refine kdu_collect (kdl_raw hs hx hdt) (I.ok.hd hc) ho (by omega) fun h' tk acc kp it => ?_
    have ea : acc.toList = (ks.map fun x => x.2.1).map Value.ref := by
      have hl : acc.toList.length = ks.length := by rw [Array.length_toList, it.1]; exact l1
      apply List.ext_getElem?
      intro j
      rw [List.getElem?_map, List.getElem?_map]
      cases hj : acc.toList[j]? with
      | none =>
        have h1 := List.getElem?_eq_none_iff.mp hj
        rw [List.getElem?_eq_none (by omega)]
        rfl
      | some v =>
        obtain ⟨en, hen, hv⟩ := it.2 j v (by rw [← Array.getElem?_toList]; exact hj)
        have qe := entry_at he j
        rw [hen] at qe
        cases hb : ks[j]? with
        | none =>
          rw [hb] at qe
          exact nomatch (show some en = none from qe)
        | some b =>
          rw [hb] at qe
          have e2 : en = entryOfKey (tupleKind (mixKind X.prog X.w)) b := Option.some.inj qe
          rw [hv, e2]
          rfl
    rw [ea]
    have J : EachIs (fun v (b : V × PyData) => ∃ as, Reads h' v b.2 as) ((ks.map fun x => x.2.1).map Value.ref) (((ks.map fun x => x.2.1).map V.ref).zip (kvs.map fun kv => tD kv.1)) := (each_reads I rv hdp).mono fun _ _ ⟨as, r⟩ => ⟨as, PyProof.Rows.Reads.keeps kp r⟩
    exact hq { s with heap := h', toks := tk } _ _ kp rfl rfl (List.Perm.refl _) rfl (each_vals rv hlen) J
  · subst ez
    obtain ⟨h1, k1, hp1⟩ := hp
    have hn : H p = none := (I.hok.kept k1).fresh hp1
    have hq : s.heap.get? p = none := by
      cases e : s.heap.get? p with
      | none => rfl
      | some u => exact absurd (Nat.lt_of_lt_of_le (Heap.lt_size (k1 p u e)) hp1) (Nat.lt_irrefl _)
    have hol : (((((ks.map fun x => x.2.1).map V.ref).zip (kvs.map fun kv => tD kv.1)).mergeSort (dataLe false Prod.snd)).map (·.1)).length ≤ sizeLine := by rw [List.length_map, List.length_mergeSort, hzl]; omega
    have J : Inv X pins σ (upd H p (.lst ((((ks.map fun x => x.2.1).map V.ref).zip (kvs.map fun kv => tD kv.1)).mergeSort (dataLe false Prod.snd) |>.map (·.1)))) { s with heap := s'.heap, gens := s'.gens, drawn := s'.drawn, toks := s'.toks } :=
      I.call (ch := []) (un_laid kp hq hn) (hok_laid I.hok kp hn ⟨hol, out, c, vals_each eo, hg⟩) (by rw [g]; exact I.bare) (fun _ z => nomatch z)
    have e : s' = { s with heap := s'.heap, gens := s'.gens, drawn := s'.drawn, toks := s'.toks } := by
      cases s'
      cases s
      cases o1
      rfl
    rw [e]
    exact ⟨.ref p, _, J, rfl, q p _ hn hik⟩
theorem share_all {K : PySem.W.Frag} {F H : Hp} {σ : L2.St} {ρ : List Sl} : ∀ {bs : List Addr} {B : Hp}, EnvB K B F H σ ρ → (∀ b ∈ bs, ∃ vs, H b = some (.tup vs)) → ∃ B', Same B B' ∧ (∀ b ∈ bs, B' b = H b) ∧ EnvB K B' F H σ ρ
  | [], B, I, _ => ⟨B, Same.refl B, (fun b hb => nomatch hb), I⟩
  | b :: bs, B, I, h => by
    obtain ⟨vs, hv⟩ := h b List.mem_cons_self
    obtain ⟨B1, s1, e1, I1⟩ := I.shareT hv
    obtain ⟨B2, s2, e2, I2⟩ := share_all (bs := bs) I1 fun c hc => h c (List.mem_cons_of_mem _ hc)
    refine ⟨B2, s1.trans s2, fun c hc => ?_, I2⟩
    rcases List.mem_cons.mp hc with z | z
    · rw [z, s2 b _ e1, hv]
    · exact e2 c z
theorem keys_tup {H : Hp} {kvs : List (List Key × V)} {bs : List Addr} (h : IsKeys H kvs bs) : ∀ b ∈ bs, ∃ vs, H b = some (.tup vs) := by
  unfold IsKeys at h
  induction h with
  | nil => intro b hb; cases hb
  | cons e t ih =>
    intro b hb
    rcases List.mem_cons.mp hb with z | z
    · rw [z]; exact ⟨_, e⟩
    · exact ih b z
theorem keys_in {H B : Hp} {kvs : List (List Key × V)} {bs : List Addr} (h : IsKeys H kvs bs) (hb : ∀ b ∈ bs, B b = H b) : IsKeys B kvs bs := by
  unfold IsKeys at h ⊢
  induction h with
  | nil => exact .nil
  | cons e t ih => exact .cons ((hb _ List.mem_cons_self).trans e) (ih fun b z => hb b (List.mem_cons_of_mem _ z))
variable {M : Md} {X : Cx} {W : WX} {N : List Str} {sc : Sco} {k : Nat} {ρ : List Sl} {pos p2 p3 : Pos} {x : Str} {i : Nat} {kvs : List (List Key × PyData)}
theorem de_sortT (c : Cn M k N sc X W) (hm : M.mg "sorted" = none) (hi : Get i x N) (hd : Get i (.ot kvs) ρ) (h : okSort (kvs.map fun kv => tD kv.1) = true) (hv : (visB sc x && okN x) = true := by decide +kernel) (hg : glB sc "sorted" = true := by decide +kernel) :
    DE M X (.Call (.Name "sorted" p3) [.Name x p2] [] pos) ρ (.list (sortD (kvs.map fun kv => tD kv.1))) := by
  rw [Bool.and_eq_true] at hv
  refine de_of (pe_callB (cr_sortT c.calm c.un) (c.gl hg) (by rw [c.eg]; exact hm) PyProof.Rows.boot_sorted (pa_cons (pe_var (i := i) (by rw [c.hN]; exact hi.at) (c.vis hv.1) (okN1 hv.2) (okN2 hv.2)) pa_nil)) fun B F σ H I Q q => ?_
  obtain ⟨l, ys, hσ, hl, hk, _⟩ := EnvB.otdict I hd
  have ek : (ys.map fun kv => tD kv.1) = kvs.map fun kv => tD kv.1 := by
    have := kdp_keys hk
    have e2 : (ys.map (·.1)).map tD = (kvs.map (·.1)).map tD := by rw [this]
    rw [List.map_map, List.map_map] at e2
    exact e2
  refine ⟨.ref l, hσ, l, ys, rfl, .inl hl, by rw [ek]; exact okSort_alike h, by rw [ek]; exact okSort_able h, by rw [ek]; exact okSort_depth h, by rw [ek]; exact okSort_lay h, fun p bs hp hb => ?_⟩
  obtain ⟨B1, s1, e1, I1⟩ := share_all I (keys_tup hb)
  have hb1 := keys_in hb e1
  obtain ⟨s2, I2⟩ := I1.new (o := .lst ((((bs.map V.ref).zip (ys.map fun kv => tD kv.1)).mergeSort (dataLe false Prod.snd)).map (·.1))) hp
  refine q _ _ _ (s1.trans s2) I2 (.lst upd_same (dpa_mono s2 ?_))
  rw [← ek]
  exact dqa_sort (keys_dq hb1)
end
/-! plain -/
section
variable {M : Md} {N : List Str} {sc : Sco} {xa : Nat → Addr} {k i x1 : Nat} {x : Str} {pos p2 p3 p4 : Pos} {b : Expr} {es : List Expr} {tr : Bool} {ra : RA} {rb : RE}
def gT : List Sl → Nat → Option (List (List Key × PyData))
  | [], _ => none
  | s :: _, 0 => match s with
    | .ot d => some d
    | _ => none
  | _ :: r, n + 1 => gT r n
theorem gT_get : ∀ {ρ : List Sl} {i : Nat} {d : List (List Key × PyData)}, gT ρ i = some d → Get i (.ot d) ρ
  | [], _, _, h => by cases h
  | s :: r, 0, d, h => by
    cases s with
    | ot e => cases h; exact .z
    | _ => cases h
  | s :: r, i + 1, d, h => .s (gT_get (ρ := r) h)
def keysOf : List PyData → Option (List Key)
  | [] => some []
  | d :: r => match keyOf d with
    | some q => (keysOf r).map (q :: ·)
    | none => none
theorem keysOf_ok : ∀ {ds : List PyData} {ks : List Key}, keysOf ds = some ks → ds = ks.map Dl.keyD
  | [], ks, h => by cases h; rfl
  | d :: r, ks, h => by
    unfold keysOf at h
    split at h
    · rename_i q e
      cases e2 : keysOf r with
      | none => rw [e2] at h; cases h
      | some l => rw [e2] at h; cases h; rw [keyOf_ok e, keysOf_ok e2]; rfl
    · cases h
def sDNewT (i : Nat) : RS := fun ρ => nxO (sS ρ i (.ot []))
theorem ss_dnewT (hi : Get i x N) (hl : locB sc x = true := by decide +kernel) : SS M k N xa sc tr (.Assign [.Name x p2] (.Dict [] [] p3) pos) (sDNewT i) := ⟨fun X W c t ρ r hh => by
  obtain ⟨ρ', e2, rfl⟩ := nxO_inv hh
  exact ds_dnewT c.toCv hi (sS_set e2) rfl hl⟩
def dputTK (i : Nat) (ρ : List Sl) (d : PyData) (o : Option (List (List Key × PyData))) (q : Option (List Key)) : Option Res := match o, q with
  | some kvs, some ks => if kvs.length < 10000000 ∧ ks.length ≤ 1000 then nxO (sS ρ i (.ot (putD kvs ks d))) else none
  | _, _ => none
def sDPutT (i : Nat) (a : RA) (b : RE) : RS := fun ρ => match a ρ with
  | some (.vs ds) => vE (b ρ) fun d => dputTK i ρ d (gT ρ i) (keysOf ds)
  | _ => none
theorem ss_dputT (hi : Get i x N) (ha : SA M k N xa sc es ra) (hb : SE M k N xa sc b rb) (hs : ∀ env, swapsWith b (some (.Subscript (.Name x p2) (.Tuple es x1 p4) p3)) pos.line env = pure false := by intro _; rfl) (hv : (visB sc x && okN x) = true := by decide +kernel) :
    SS M k N xa sc tr (.Assign [.Subscript (.Name x p2) (.Tuple es x1 p4) p3] b pos) (sDPutT i ra rb) := ⟨fun X W c t ρ r hh => by
  unfold sDPutT at hh
  split at hh
  · rename_i ds h1
    obtain ⟨d, h2, hh⟩ := vE_inv hh
    unfold dputTK at hh
    split at hh
    · rename_i kvs ks e1 e2
      split at hh
      · rename_i hz
        obtain ⟨ρ', e3, rfl⟩ := nxO_inv hh
        rw [keysOf_ok e2] at h1
        exact ds_dputT c.toCv hi (gT_get e1) (ha.ok X W c ρ _ h1) (hb.ok X W c ρ _ h2) (sS_set e3) hz.1 hz.2 rfl (hs _) hv
      · cases hh
    · cases hh
  · cases hh⟩
def sortTK (o : Option (List (List Key × PyData))) : Option RO := match o with
  | some kvs => if okSort (kvs.map fun kv => tD kv.1) = true then some (.ret (.list (sortD (kvs.map fun kv => tD kv.1)))) else none
  | none => none
def rSortDT (i : Nat) : RE := fun ρ => sortTK (gT ρ i)
theorem se_sortDT (hi : Get i x N) (hm : M.mg "sorted" = none) (hv : (visB sc x && okN x) = true := by decide +kernel) (hg : glB sc "sorted" = true := by decide +kernel) : SE M k N xa sc (.Call (.Name "sorted" p3) [.Name x p2] [] pos) (rSortDT i) where
  ok X W c ρ d hh := by
    unfold rSortDT sortTK at hh
    split at hh
    · rename_i kvs q
      split at hh
      · cases hh
        exact de_sortT c hm hi (gT_get q) (by assumption) hv hg
      · cases hh
    · cases hh
  ex X W c ρ c' hh := by
    unfold rSortDT sortTK at hh
    split at hh
    · split at hh <;> cases hh
    · cases hh
theorem gT_z {d : List (List Key × PyData)} {r : List Sl} : gT (.ot d :: r) 0 = some d := rfl
theorem gT_s {s : Sl} {r : List Sl} {n : Nat} : gT (s :: r) (n + 1) = gT r n := rfl
def dputTA (i : Nat) (b : RE) (ρ : List Sl) (o : Option RL) : Option Res := match o with
  | some (.vs ds) => vE (b ρ) fun d => dputTK i ρ d (gT ρ i) (keysOf ds)
  | _ => none
theorem e_dputT {i : Nat} {a : RA} {b : RE} {ρ : List Sl} : sDPutT i a b ρ = dputTA i b ρ (a ρ) := rfl
theorem dputTA_s {i : Nat} {b : RE} {ρ : List Sl} {ds : List PyData} : dputTA i b ρ (some (.vs ds)) = vE (b ρ) fun d => dputTK i ρ d (gT ρ i) (keysOf ds) := rfl
theorem dputTK_s {i : Nat} {ρ : List Sl} {d : PyData} {kvs : List (List Key × PyData)} {ks : List Key} (h : kvs.length < 10000000 ∧ ks.length ≤ 1000) : dputTK i ρ d (some kvs) (some ks) = nxO (sS ρ i (.ot (putD kvs ks d))) := if_pos h
theorem e_dnewT {i : Nat} {ρ : List Sl} : sDNewT i ρ = nxO (sS ρ i (.ot [])) := rfl
theorem e_sortDT {i : Nat} {ρ : List Sl} : rSortDT i ρ = sortTK (gT ρ i) := rfl
end
end Rl

/-! sorted(xs, key=f), f a def of the program -/
namespace Rl
open PySem PySem.Spec PyProof.Rows L2 Dl
section
open PySem.W PySem.Calls
def rSortK (K : PySem.W.Frag) (f : Addr) (sp : Sp) : List V → List V → Hp → VK → Prop := fun vs zs H Q => ∃ (a : Addr) (xs : List V) (inv : Nat → Hp → List V → Prop), vs = [.ref a] ∧ zs = [.ref f] ∧ (SqL K H a xs ∨ SqT K H a xs) ∧ inv 0 H [] ∧
  (∀ i x H1 ks, xs[i]? = some x → inv i H1 ks → sp [x] H1 (fun v H2 => inv (i + 1) H2 (ks ++ [v])) (fun _ _ _ => False)) ∧
  ∀ H1 ks, inv xs.length H1 ks → ∃ kds : List PyData, L2.DpAll K H1 ks kds ∧ AllAlike kds ∧ Sortable kds ∧ (∀ d ∈ kds, PyData.depth d ≤ 64) ∧ ks.length = xs.length ∧
    ∀ p, H1 p = none → Q (.ref p) (upd H1 p (.lst (((xs.zip kds).mergeSort (dataLe false Prod.snd)).map (·.1))))
theorem vals_back {xs : List V} {us : List Value} (h : Vals xs us) {j : Nat} {u : Value} (e : us[j]? = some u) : ∃ x, xs[j]? = some x ∧ RelV x u := by
  have hl := h.length
  have hj := (List.getElem?_eq_some_iff.mp e).1
  have hx : xs[j]? = some xs[j] := List.getElem?_eq_getElem (by omega)
  obtain ⟨u', q1, q2⟩ := h.get hx
  rw [e] at q1
  cases q1
  exact ⟨_, hx, q2⟩
theorem fp_nofr {X : Cx} {pins : List (Addr × Obj)} {σ : L2.St} {H : Hp} {s : Shared} {b : Addr} (I : Inv X pins σ H s) (h : FpOk X pins H b) : b ∉ frs X.stack := fun z => by
  rcases List.mem_cons.mp (I.stkSub b z) with e | e
  · exact h.2.1 e
  · exact h.2.2.1 e
theorem sortK_rest {X : Cx} {pins : List (Addr × Obj)} {σ : L2.St} {H : Hp} {s : Shared} {kf : Nat} {f L kS : Addr} {fd : FuncData} {ps : List Str} {sp : Sp} {xs : List V} {its : List Value} {e1 : Nat} {inv : Nat → Hp → List V → Prop} {Q : VK} {P : PySem.Fin → Shared → Prop} {E : Value → Shared → Prop}
    (F : FnOk X.prog X.w X.K X.mg X.base (L2N.CX X.prog X.w) kf f fd ps sp) (hr : Room (kf + 2) X.A) (hb : Binds X.K fd ps []) (hun : X.A.units + 200 < cLine) (I : Inv X pins σ H s) (nk : s.heap.get? kS = some (seqObj "list" #[] 0)) (nl : s.heap.get? L = some (seqObj "list" #[] e1))
    (fk : FpOk X pins H kS) (fl : FpOk X pins H L) (hne : kS ≠ L) (rv : Vals xs its) (hl : xs.length ≤ sizeLine) (h0 : inv 0 H []) (hstep : ∀ i x H1 ks, xs[i]? = some x → inv i H1 ks → sp [x] H1 (fun v H2 => inv (i + 1) H2 (ks ++ [v])) (fun _ _ _ => False))
    (hend : ∀ H1 ks, inv xs.length H1 ks → ∃ kds : List PyData, L2.DpAll X.K H1 ks kds ∧ AllAlike kds ∧ Sortable kds ∧ (∀ d ∈ kds, PyData.depth d ≤ 64) ∧ ks.length = xs.length ∧
      ∀ p, H1 p = none → Q (.ref p) (upd H1 p (.lst (((xs.zip kds).mergeSort (dataLe false Prod.snd)).map (·.1)))))
    (hP : ∀ s' H', Inv X pins σ H' s' → Q (.ref L) H' → P (.done (.ret .none)) s') : wpAny (model X.prog X.w) X.A.in1.in1 (ksk_rest L (.ref f) false its.toArray e1 (.ref kS)) P E s := by
  have hil : its.length ≤ sizeLine := by rw [← rv.length]; exact hl
  unfold ksk_rest
  refine wpAny_bind (wpAny_rule ?_)
  rw [List.forIn_toArray]
  refine wpAny_bind (ksk_fold (fun i s' => ∃ (H' : Hp) (kA : Array Value) (e : Nat) (ks : List V), Inv X pins σ H' s' ∧ s'.heap.get? kS = some (seqObj "list" kA e) ∧ s'.heap.get? L = some (seqObj "list" #[] e1) ∧ FpOk X pins H' kS ∧ FpOk X pins H' L ∧ Vals ks kA.toList ∧ kA.size = i ∧ inv i H' ks) its 0 s
    ⟨H, #[], 0, [], I, nk, nl, fk, fl, .nil, rfl, h0⟩ ?step ?done)
  case step =>
    rintro j x s' hx ⟨H', kA, e, ks, I', nk', nl', fk', fl', vk, hz, hi⟩
    simp only [Nat.zero_add] at hi hz ⊢
    obtain ⟨y, hy, rel⟩ := vals_back rv hx
    have hj : j < its.length := (List.getElem?_eq_some_iff.mp hx).1
    have hsp := hstep j y H' ks hy hi
    have hps : [x].length = ps.length := F.len _ _ _ _ hsp
    have T : wpAny (model X.prog X.w) X.A.in1.in1 (call (.ref f) [x]) (fun u s'' => CE X.stack X.prog X.w H' s' (fun v H2 => inv (j + 1) H2 (ks ++ [v])) u s'') (fun _ _ => False) s' := by
      refine wpAny_call (codeAny_mono (F.run X.A.in1.in1 X.stack s' H' ⟨[x], []⟩ [x] [y] _ _ hr.in1.in1 I'.env0.in1.in1 (by have := hb s' [x] I'.kIn (by simpa using hps); simpa using this) (.cons rel .nil) hsp) fun r s'' hq => ?_)
      cases r with
      | error e =>
        obtain ⟨_, _, _, _, _, _, _, _, _, _, _, _, z⟩ := hq
        exact z
      | ok fl =>
        cases fl with
        | ret u => exact hq
        | next => exact hq
        | brk => exact hq
        | cont => exact hq
    refine wpAny_bind (wpAny_attempt (wpAny_mono T (fun u s'' hu => ?_) fun _ _ hF => hF.elim))
    obtain ⟨v, H2, os, bare, un, hok, rel2, q⟩ := hu
    try dsimp only
    have I3 : Inv X pins σ H2 s'' := I'.call' (ch := []) os un hok bare (fun _ z => nomatch z)
    have nk2 : s''.heap.get? kS = some (seqObj "list" kA e) := un.keep kS _ nk' fk'.1 (fp_nofr I' fk') (fun z => nomatch z)
    have nl2 : s''.heap.get? L = some (seqObj "list" #[] e1) := un.keep L _ nl' fl'.1 (fp_nofr I' fl') (fun z => nomatch z)
    have fk2 : FpOk X pins H2 kS := ⟨un.free kS _ nk' fk'.1 (fun z => nomatch z), fk'.2⟩
    have fl2 : FpOk X pins H2 L := ⟨un.free L _ nl' fl'.1 (fun z => nomatch z), fl'.2⟩
    have s1 := Heap.SameBut.update s''.heap kS (Obj.mapSeq (·.push u))
    obtain ⟨c2, hc2⟩ : ∃ c2, (s''.heap.update kS (Obj.mapSeq (·.push u))).get? kS = some (seqObj "list" (kA.push u) c2) := ⟨_, get?_update_seq nk2 (·.push u)⟩
    refine wpAny_bind (listUpdate_at nk2 rfl ?_ (by omega) (Nat.le_trans (Nat.le_of_eq (Array.size_push ..)) (by omega)))
    refine wpAny_pure ⟨rfl, H2, kA.push u, c2, ks ++ [v], I3.turned (t' := s''.toks) (it := kS) (fun b o hb e => (s1.2 b hb).trans e) fk2.1 fk2.2.1 fk2.2.2.2.1 fk2.2.2.2.2.1 fk2.2.2.2.2.2, hc2, (s1.2 L hne.symm).trans nl2, fk2, fl2, ?_, by rw [Array.size_push, hz], q⟩
    rw [show (kA.push u).toList = kA.toList ++ [u] by simp]
    exact vk.append (.cons rel2 .nil)
  case done =>
    rintro s' ⟨H', kA, e, ks, I', nk', nl', fk', fl', vk, hz, hi⟩
    rw [Nat.zero_add, ← rv.length] at hi hz
    obtain ⟨kds, hdp, hal, hso, hdep, hkl, q⟩ := hend H' ks hi
    have hlen := dpAll_len hdp
    have hrd : EachIs (fun v d => ∃ as, Reads s'.heap v d as) kA.toList kds := by
      have e4 := each_map (R := fun v d => ∃ as, Reads s'.heap v d as) Prod.snd (each_reads I' vk hdp)
      rw [zip_snd hlen] at e4
      exact e4
    obtain ⟨G, g1, g2⟩ := L2.restrict s'.heap fun b => decide (b ≠ kS)
    have gN : G.get? kS = none := g2 kS (by simp)
    have gS : ∀ b, b ≠ kS → G.get? b = s'.heap.get? b := fun b hb => g1 b (decide_eq_true hb)
    have kp : KeepsBut L G s'.heap := fun b o _ eb => by
      have hb : b ≠ kS := fun z => by rw [z, gN] at eb; cases eb
      rw [← gS b hb]; exact eb
    try dsimp only
    refine wpAny_bind (listItems_at nk' rfl ?_)
    refine keyH_end (κ := dataKind s'.heap kds) (h₁ := G) kp gN nk' nl' hne (SortsAt.data (s := s') hrd hal hso fun d hd => ?_) (by rw [hz]; exact rv.length) hil fun h3 tk3 c k3 n3 => ?_
    · have h1 := hdep d hd
      have h2 : X.A.in1.in1.units = X.A.units + 2 := rfl
      omega
    · have hzl : (xs.zip kds).length = xs.length := by rw [List.length_zip, ← hlen, hkl, Nat.min_self]
      have hzk : (xs.zip kds).map (·.2) = kds := zip_snd (by omega)
      have eo : EachIs (fun u (b : V × PyData) => RelV b.1 u) (sortVals (dataKind s'.heap kds) false kA.toList its) ((xs.zip kds).mergeSort (dataLe false Prod.snd)) := by
        refine sortVals_each (κ := dataKind s'.heap kds) (fun b : V × PyData => keyToks b.2) (each_vals rv (by omega)) ?_
        have e5 := each_keys hal hrd
        rw [← hzk] at e5
        have e6 := each_of_map (fun b : V × PyData => b.2) e5
        rw [hzk] at e6
        exact e6
      have kept : ∀ b o, b ≠ L → b ≠ kS → s'.heap.get? b = some o → h3.get? b = some o := fun b o h1 h2 eb => k3 b o h1 (by rw [gS b h2]; exact eb)
      have nt : ∀ b u, H' b = some u → b ≠ L ∧ b ≠ kS := fun b u eb => ⟨(fun z => by rw [z, fl'.1] at eb; cases eb), (fun z => by rw [z, fk'.1] at eb; cases eb)⟩
      have J : Inv X pins σ (upd H' L (.lst (((xs.zip kds).mergeSort (dataLe false Prod.snd)).map (·.1)))) { s' with heap := h3, toks := tk3 } := by
        refine I'.call (ch := [L, kS]) (g' := s'.gens) (d' := s'.drawn) (t' := tk3) { keep := fun b o eb hn _ hx => ?_, slot := fun b o eb hn _ hx => ?_, free := fun b o eb hn hx => ?_, there := fun b o eb hx => ?_, tups := fun b vs eb => ?_, frzs := fun b o u eb => ?_, tbls := fun b ps eb => ?_ } (fun b u eb => ?_) I'.bare (fun b hx => ?_)
        · exact kept b o (fun z => hx (by simp [z])) (fun z => hx (by simp [z])) eb
        · exact ⟨o.slots, kept b o (fun z => hx (by simp [z])) (fun z => hx (by simp [z])) eb⟩
        · rw [upd_ne fun z => hx (by simp [z])]; exact hn
        · exact ⟨o, kept b o (fun z => hx (by simp [z])) (fun z => hx (by simp [z])) eb⟩
        · rw [upd_ne (nt b _ eb).1]; exact eb
        · rw [upd_ne (nt b _ eb).1]; exact eb
        · exact ⟨#[], by rw [upd_ne (nt b _ eb).1, eb]; simp⟩
        · rcases Decidable.em (b = L) with hbL | hbL
          · cases hbL
            cases upd_same.symm.trans eb
            exact ⟨by rw [List.length_map, List.length_mergeSort, hzl]; exact hl, _, c, vals_each eo, n3⟩
          · have eb' := (upd_ne hbL).symm.trans eb
            refine (I'.hok b u eb').stay (fun c v hc q => kept c v ?_ ?_ q) (fun c q => ?_) fun c vs q => ?_
            · rcases hc with z | z
              · rw [z]; exact hbL
              · exact (nt c _ z).1
            · rcases hc with z | z
              · rw [z]; exact (nt b u eb').2
              · exact (nt c _ z).2
            · rw [upd_ne (nt c _ q).1]; exact q
            · rw [upd_ne (nt c _ q).1]; exact q
        · rcases List.mem_cons.mp hx with z | z
          · rw [z]; exact ⟨fl'.2.2.2.1, fl'.2.1, fl'.2.2.2.2.1, fl'.2.2.2.2.2⟩
          · rw [List.mem_singleton.mp z]; exact ⟨fk'.2.2.2.1, fk'.2.1, fk'.2.2.2.2.1, fk'.2.2.2.2.2⟩
      exact hP _ _ J (q L fl'.1)
theorem cr_sortK {X : Cx} {kf : Nat} {f : Addr} {fd : FuncData} {ps : List Str} {sp : Sp} (F : FnOk X.prog X.w X.K X.mg X.base (L2N.CX X.prog X.w) kf f fd ps sp) (hr : Room (kf + 2) X.A) (hb : Binds X.K fd ps []) (hun : X.A.units + 200 < cLine) : CallRK X (.builtin "sorted") [Str.ofString "key"] (rSortK X.K f sp) := by
  intro pins s σ H vs zs us ws Q I r rz h
  obtain ⟨a, xs, inv, rfl, rfl, hs, h0, hstep, hend⟩ := h
  obtain rfl := Vals.ref1 r
  obtain rfl := Vals.ref1 rz
  have hob : ∃ (its : List Value) (o : Obj) (T : String) (n : Nat), Vals xs its ∧ (T = "list" ∨ T = "tuple") ∧ s.heap.get? a = some o ∧ o.cls = .type T ∧ o.data = .seq its.toArray n ∧ xs.length ≤ sizeLine := by
    rcases hs with hs | hs
    · obtain ⟨its, rv, pl, hl⟩ := I.list hs
      obtain ⟨o, ho, hc, n, hd⟩ := pl.isList
      exact ⟨its, o, "list", n, rv, .inl rfl, ho, hc, hd, hl⟩
    · obtain ⟨its, rv, ⟨o, ho, hc, n, hd⟩, hl⟩ := I.tuple hs
      exact ⟨its, o, "tuple", n, rv, .inr rfl, ho, hc, hd, hl⟩
  obtain ⟨its, o, T, n, rv, hT, ho, hc, hdt, hl⟩ := hob
  have hil : its.length ≤ sizeLine := by rw [← rv.length]; exact hl
  refine call_function_entry_kw kind_sorted plain_sorted entry_sorted (ksk_s1 _ _) ?_
  unfold Builtin.«sorted»
  refine wpAny_bind (m := checkCount "sorted" 1 1 _) (wpAny_pure ?_)
  refine wpAny_bind (wpAny_collect_seq a hT ho hc hdt (fun h' k => ?_) (by rw [List.size_toArray]; exact hil))
  rw [List.toList_toArray]
  refine wpAny_bind (wpAny_newList ?_ hil)
  have I1 : Inv X pins σ H { s with heap := h', toks := s.toks } := I.kept k
  have hoL : (h'.push (seqObj "list" its.toArray 0)).get? h'.objs.size = some (seqObj "list" its.toArray 0) := Heap.get?_push_size _ rfl
  refine wpAny_bind (wpAny_holding (wpAny_call_entry_kw slot_list_sort ⟨_, hoL, rfl⟩ entry_list_sort ?body (ksk_l1 _ _)))
  show wpAny (model X.prog X.w) X.A.in1.in1 (Builtin.«list.sort» ⟨[.ref h'.objs.size], [(Str.ofString "key", .ref f)]⟩) _ _ _
  rw [ksk_t1]
  obtain ⟨L, hL⟩ : ∃ L, L = h'.objs.size := ⟨_, rfl⟩
  rw [← hL] at hoL ⊢
  obtain ⟨e1, ho1⟩ : ∃ e1, ((h'.push (seqObj "list" its.toArray 0)).update L (Obj.mapSeq fun _ => (#[] : Array Value))).get? L = some (seqObj "list" #[] e1) := ⟨_, get?_update_seq hoL fun _ => #[]⟩
  have hsz : (((h'.push (seqObj "list" its.toArray 0)).update L (Obj.mapSeq fun _ => (#[] : Array Value))).push (seqObj "tuple" its.toArray 0)).objs.size = L + 2 := by rw [size_push', Heap.size_update, size_push', hL]
  unfold ksk_tree
  refine wpAny_bind (listItems_at hoL rfl ?_)
  refine wpAny_bind (listUpdate_at hoL rfl ?_ (by rw [List.size_toArray]; exact hil) (Nat.zero_le _))
  refine wpAny_bind (seqEpoch_at ho1 rfl ?_)
  refine wpAny_bind (wpAny_newTuple ?_ (by show its.length ≤ _; exact hil))
  refine wpAny_bind (wpAny_newList ?_ (Nat.zero_le _))
  refine wpAny_holding ?_
  have nk0 : ((((h'.push (seqObj "list" its.toArray 0)).update L (Obj.mapSeq fun _ => (#[] : Array Value))).push (seqObj "tuple" its.toArray 0)).push (seqObj "list" #[] 0)).get? (L + 2) = some (seqObj "list" #[] 0) := by rw [← hsz]; exact Heap.get?_push_size _ rfl
  have nl0 : ((((h'.push (seqObj "list" its.toArray 0)).update L (Obj.mapSeq fun _ => (#[] : Array Value))).push (seqObj "tuple" its.toArray 0)).push (seqObj "list" #[] 0)).get? L = some (seqObj "list" #[] e1) := Heap.get?_push_of_some _ (Heap.get?_push_of_some _ ho1)
  have k2 : ∀ b u, h'.get? b = some u → ((((h'.push (seqObj "list" its.toArray 0)).update L (Obj.mapSeq fun _ => (#[] : Array Value))).push (seqObj "tuple" its.toArray 0)).push (seqObj "list" #[] 0)).get? b = some u := fun b u e => by
    refine Heap.get?_push_of_some _ (Heap.get?_push_of_some _ ?_)
    rw [Heap.get?_update_ne _ _ _ _ (by rw [hL]; exact Nat.ne_of_lt (Heap.lt_size e))]
    exact Heap.get?_push_of_some _ e
  have fL : FpOk X pins H L := I1.fpOk (b := L) (by rw [hL]; exact Nat.le_refl _) (I1.hok.fresh (by rw [hL]; exact Nat.le_refl _))
  have fK : FpOk X pins H (L + 2) := I1.fpOk (b := L + 2) (by rw [hL]; exact Nat.le_add_right _ _) (I1.hok.fresh (by rw [hL]; exact Nat.le_add_right _ _))
  show wpAny _ _ (ksk_rest L (.ref f) false its.toArray _ (.ref _)) _ _ _
  have I2 := I1.kept (t' := s.toks) k2
  have fin := fun P E hP => sortK_rest (P := P) (E := E) (Q := Q) F hr hb hun I2 nk0 nl0 fK fL (Nat.ne_of_gt (Nat.lt_add_of_pos_right (by decide))) rv hl h0 hstep hend hP
  rw [← hsz] at fin
  exact fin _ _ fun s' H' J q => ⟨_, rfl, wpAny_pure ⟨_, rfl, ⟨.ref L, H', J, rfl, q⟩⟩⟩
end
end Rl

/-! sorted(xs, key=f): data, plain -/
namespace Rl
open PySem PySem.Spec PyProof.Rows L2 Dl
section
open PySem.W
/-- things sorted by their keys -/
def sortBy (ds kds : List PyData) : List PyData := ((ds.zip kds).mergeSort (dataLe false Prod.snd)).map (·.1)
theorem zip3 : ∀ {xs : List V} {ds kds : List PyData}, xs.length = ds.length → kds.length = ds.length → (((xs.zip ds).zip kds).map fun t => (t.1.1, t.2)) = xs.zip kds ∧ (((xs.zip ds).zip kds).map fun t => (t.1.2, t.2)) = ds.zip kds
  | [], [], [], _, _ => ⟨rfl, rfl⟩
  | [], _ :: _, _, h, _ => by cases h
  | _ :: _, [], _, h, _ => by cases h
  | _, [], _ :: _, _, h => by cases h
  | _, _ :: _, [], _, h => by cases h
  | x :: xs, d :: ds, k :: kds, h1, h2 => by
    obtain ⟨e1, e2⟩ := zip3 (xs := xs) (ds := ds) (kds := kds) (by simpa using h1) (by simpa using h2)
    refine ⟨?_, ?_⟩
    · exact congrArg (List.cons (x, k)) e1
    · exact congrArg (List.cons (d, k)) e2
theorem dqa_pick2 {K : PySem.W.Frag} {B : Hp} : ∀ {ts : List ((V × PyData) × PyData)}, (∀ t ∈ ts, Dq K B t.1.1 t.1.2) → DqAll K B (ts.map fun t => t.1.1) (ts.map fun t => t.1.2)
  | [], _ => .nil
  | t :: ts, h => .cons (h t List.mem_cons_self) (dqa_pick2 fun u hu => h u (List.mem_cons_of_mem _ hu))
theorem dqa_sortK {K : PySem.W.Frag} {B : Hp} {xs : List V} {ds kds : List PyData} (h : DqAll K B xs ds) (hl : kds.length = ds.length) : DqAll K B (((xs.zip kds).mergeSort (dataLe false Prod.snd)).map (·.1)) (sortBy ds kds) := by
  obtain ⟨e1, e2⟩ := zip3 (dpa_len h) hl
  unfold sortBy
  rw [← e1, ← e2, ← List.map_mergeSort (r := dataLe false Prod.snd) (s := dataLe false Prod.snd) (f := fun t : (V × PyData) × PyData => (t.1.1, t.2)) (fun a _ b _ => rfl),
    ← List.map_mergeSort (r := dataLe false Prod.snd) (s := dataLe false Prod.snd) (f := fun t : (V × PyData) × PyData => (t.1.2, t.2)) (fun a _ b _ => rfl), List.map_map, List.map_map]
  refine dqa_pick2 fun t ht => ?_
  have hm := (List.mergeSort_perm _ _).mem_iff.mp ht
  exact dqa_zip h t.1 (List.of_mem_zip hm).1
theorem dpa_back {K : PySem.W.Frag} {B : Hp} {vs : List V} {ds : List PyData} (h : DqAll K B vs ds) {i : Nat} {v : V} (e : vs[i]? = some v) : ∃ d, ds[i]? = some d ∧ Dq K B v d := by
  have hl := dpa_len h
  have hi := (List.getElem?_eq_some_iff.mp e).1
  have hd : ds[i]? = some ds[i] := List.getElem?_eq_getElem (by omega)
  obtain ⟨v', q1, q2⟩ := dpa_getd h i _ hd
  rw [e] at q1
  cases q1
  exact ⟨_, hd, q2⟩
def itemsOf : PyData → Option (List PyData)
  | .list ds => some ds
  | .tuple ds => some ds
  | _ => none
variable {M : Md} {X : Cx} {W : WX} {N : List Str} {sc : Sco} {k kf : Nat} {ρ : List Sl} {d : PyData} {ds kds : List PyData} {a : Expr} {pos p2 p3 kp : Pos} {y : Str} {φ : List PyData → Out → Prop}
theorem de_sortK (c : Cn M k N sc X W) (hm : M.mg "sorted" = none) (G : Fok M kf y φ) (hk : kf + 2 ≤ k) (ha : DE M X a ρ d) (hi : itemsOf d = some ds) (hl : kds.length = ds.length) (hφ : ∀ (i : Nat) d kd, ds[i]? = some d → kds[i]? = some kd → φ [d] (.ret kd)) (h : okSort kds = true)
    (hs : starEach [a] X.env = (false, eval a X.env) :: starEach [] X.env := by rfl) (hg : (glB sc "sorted" && (glB sc y && okN y)) = true := by decide +kernel)
    (he : backTo pos (starEach [a] X.env) = (false, eval a X.env) :: backTo pos (starEach [] X.env) := by rfl) (hpl : (backTo pos (starEach [a] X.env)).any (·.1) = false := by rfl)
    (hall : (backToKw pos (keywordEach [⟨some (Str.ofString "key"), .Name y p2, kp⟩] X.env)).all (·.1.isSome) = true := by rfl) (hnone : (backToKw pos (keywordEach [⟨some (Str.ofString "key"), .Name y p2, kp⟩] X.env)).any (·.1.isNone) = false := by rfl) (hks : (backToKw pos (keywordEach [⟨some (Str.ofString "key"), .Name y p2, kp⟩] X.env)).filterMap (·.1) = [Str.ofString "key"] := by rfl) :
    DE M X (.Call (.Name "sorted" p3) [a] [⟨some (Str.ofString "key"), .Name y p2, kp⟩] pos) ρ (.list (sortBy ds kds)) := by
  rw [Bool.and_eq_true, Bool.and_eq_true] at hg
  obtain ⟨f, fd, ps, F, hmf, hkp, hb⟩ := G.ex
  have F1 : FnOk X.prog X.w X.K X.mg X.base (L2N.CX X.prog X.w) kf f fd ps (spX M.K φ) := by rw [c.eP, c.ew, c.eK, c.eg, c.eb]; exact F
  refine de_of (pe_callBK (cr_sortK F1 (c.room.mono hk) (by rw [c.eK]; exact hb) c.un) (c.gl hg.1) (by rw [c.eg]; exact hm) PyProof.Rows.boot_sorted (pa_cons pe_sem pa_nil hs) (pk_cons (pe_glob (c.gl hg.2.1) (by rw [c.eg]; exact hmf) (v := .ref f) rfl (okN1 hg.2.2)) pk_nil) (he := he) (hpl := hpl) (hall := hall) (hnone := hnone) (hks := hks)) fun B F σ H I Q q => ?_
  refine ha B F σ H I _ fun v H1 B1 s1 I1 p1 => ?_
  have key : ∃ (a0 : Addr) (xs : List V), v = .ref a0 ∧ (SqL X.K H1 a0 xs ∨ SqT X.K H1 a0 xs) ∧ DqAll M.K B1 xs ds := by
    cases p1 with
    | lst s al => cases hi; exact ⟨_, _, rfl, .inl (SqL.of (I1.bh _ _ s)), al⟩
    | tup s al => cases hi; exact ⟨_, _, rfl, .inr (by rw [c.eK]; exact Evl.ex_t I1.bh s), al⟩
    | _ => cases hi
  obtain ⟨a0, xs, rfl, hsq, al⟩ := key
  have hxl := dpa_len al
  refine ⟨a0, xs, fun i H' ks => ∃ B', Same B1 B' ∧ EnvB M.K B' F H' σ ρ ∧ DqAll M.K B' ks (kds.take i), rfl, rfl, hsq, ⟨B1, Same.refl B1, I1, by rw [List.take_zero]; exact .nil⟩, ?_, ?_⟩
  · rintro i x H' ks hx ⟨B', sb, I', hkk⟩
    obtain ⟨d0, hd, dq⟩ := dpa_back al hx
    have hil := (List.getElem?_eq_some_iff.mp hd).1
    obtain ⟨kd, hkd⟩ : ∃ kd, kds[i]? = some kd := ⟨_, List.getElem?_eq_getElem (by omega)⟩
    refine ⟨[d0], .ret kd, B', rem H' B', hφ i d0 kd hd hkd, .cons (dp_mono sb dq) .nil, I'.bh, rem_same, fun a u => rem_dj, fun d' hd' v H2 B2 t1 t2 t3 t4 pv => ?_, fun C hC => by cases hC⟩
    cases hd'
    refine ⟨B2, sb.trans t1, I'.back t1 t2 t3 t4, ?_⟩
    rw [show kds.take (i + 1) = kds.take i ++ [kd] by rw [List.take_add_one, hkd]; rfl]
    exact dpa_app (dpa_mono t1 hkk) (.cons pv .nil)
  · rintro H' ks ⟨B', sb, I', hkk⟩
    rw [List.take_of_length_le (by omega)] at hkk
    refine ⟨kds, by rw [c.eK]; exact dqa_dp (dpa_mono I'.bh hkk) (okSort_lay h), okSort_alike h, okSort_able h, okSort_depth h, by have := dpa_len hkk; omega, fun p hp => ?_⟩
    obtain ⟨s2, I2⟩ := I'.new (o := .lst (((xs.zip kds).mergeSort (dataLe false Prod.snd)).map (·.1))) hp
    exact q _ _ _ (s1.trans (sb.trans s2)) I2 (.lst upd_same (dpa_mono s2 (dqa_sortK (dpa_mono sb al) hl)))
end
/-! plain -/
section
variable {M : Md} {N : List Str} {sc : Sco} {xa : Nat → Addr} {k kf : Nat} {y : Str} {pos p2 p3 kp : Pos} {a : Expr} {ra : RE} {call : RC} {fn : Nat}
def keysBy (call : RC) (fn : Nat) : List PyData → Option (List PyData)
  | [] => some []
  | d :: r => match call fn [d] with
    | some (.ret q) => (keysBy call fn r).map (q :: ·)
    | _ => none
theorem keysBy_ok : ∀ {ds kds : List PyData}, keysBy call fn ds = some kds → kds.length = ds.length ∧ ∀ (i : Nat) d kd, ds[i]? = some d → kds[i]? = some kd → phiC call xa fn [d] (.ret kd)
  | [], kds, h => by cases h; exact ⟨rfl, fun i d kd h => by simp at h⟩
  | d :: r, kds, h => by
    unfold keysBy at h
    split at h
    · rename_i q e
      cases e2 : keysBy call fn r with
      | none => rw [e2] at h; cases h
      | some l =>
        rw [e2] at h
        cases h
        obtain ⟨h1, h2⟩ := keysBy_ok (ds := r) e2
        refine ⟨by rw [List.length_cons, List.length_cons, h1], fun i d' kd hd hk => ?_⟩
        cases i with
        | zero => cases hd; cases hk; exact ⟨_, e, rfl⟩
        | succ i => exact h2 i d' kd hd hk
    · cases h
def sortKF (call : RC) (fn : Nat) (d : PyData) : Option RO := match itemsOf d with
  | some ds => match keysBy call fn ds with
    | some kds => if okSort kds = true then some (.ret (.list (sortBy ds kds))) else none
    | none => none
  | none => none
def rSortKey (call : RC) (fn : Nat) (a : RE) : RE := fun ρ => vE (a ρ) (sortKF call fn)
theorem se_sortKey (hm : M.mg "sorted" = none) (G : Fok M kf y (phiC call xa fn)) (hk : kf + 2 ≤ k) (ha : SE M k N xa sc a ra) (hs : ∀ env, starEach [a] env = (false, eval a env) :: starEach [] env := by intro _; rfl) (hg : (glB sc "sorted" && (glB sc y && okN y)) = true := by decide +kernel)
    (he : ∀ env, backTo pos (starEach [a] env) = (false, eval a env) :: backTo pos (starEach [] env) := by intro _; rfl) (hpl : ∀ env, (backTo pos (starEach [a] env)).any (·.1) = false := by intro _; rfl)
    (hall : ∀ env, (backToKw pos (keywordEach [⟨some (Str.ofString "key"), .Name y p2, kp⟩] env)).all (·.1.isSome) = true := by intro _; rfl) (hnone : ∀ env, (backToKw pos (keywordEach [⟨some (Str.ofString "key"), .Name y p2, kp⟩] env)).any (·.1.isNone) = false := by intro _; rfl) (hks : ∀ env, (backToKw pos (keywordEach [⟨some (Str.ofString "key"), .Name y p2, kp⟩] env)).filterMap (·.1) = [Str.ofString "key"] := by intro _; rfl) :
    SE M k N xa sc (.Call (.Name "sorted" p3) [a] [⟨some (Str.ofString "key"), .Name y p2, kp⟩] pos) (rSortKey call fn ra) where
  ok X W c ρ d hh := by
    obtain ⟨d1, h1, hh⟩ := vE_inv hh
    unfold sortKF at hh
    split at hh
    · rename_i ds e1
      split at hh
      · rename_i kds e2
        split at hh
        · cases hh
          obtain ⟨q1, q2⟩ := keysBy_ok (xa := xa) e2
          exact de_sortK c hm G hk (ha.ok X W c ρ _ h1) e1 q1 q2 (by assumption) (hs _) hg (he _) (hpl _) (hall _) (hnone _) (hks _)
        · cases hh
      · cases hh
    · cases hh
  ex X W c ρ c' hh := by
    obtain ⟨d1, h1, hh⟩ := vE_inv hh
    unfold sortKF at hh
    split at hh
    · split at hh
      · split at hh <;> cases hh
      · cases hh
    · cases hh
theorem e_sortKey {ρ : List Sl} : rSortKey call fn ra ρ = vE (ra ρ) (sortKF call fn) := rfl
end
end Rl

/-! a dict that is locked for one statement -/
namespace Rl
open PySem PySem.Spec PyProof.Rows L2 Dl
mutual
def noF : PyData → Bool
  | .dict rows => (scrOf rows).isSome
  | .list ds => noFs ds
  | .tuple ds => noFs ds
  | _ => true
def noFs : List PyData → Bool
  | [] => true
  | d :: r => noF d && noFs r
end
def isLk : HO → Prop
  | .frz _ (.dK _) => True
  | _ => False
mutual
theorem dq_unl {K : PySem.W.Frag} {B B2 : Hp} (hB : ∀ a o, B a = some o → B2 a = some o ∨ isLk o) : ∀ {v : V} {d : PyData}, noF d = true → Dq K B v d → Dq K B2 v d
  | _, _, _, .non => .non
  | _, _, _, .bl b => .bl b
  | _, _, _, .int i => .int i
  | _, _, _, .str x => .str x
  | _, _, h, .lst s t => by
    rcases hB _ _ s with q | q
    · exact .lst q (dqs_unl hB h t)
    · exact q.elim
  | _, _, h, .tup s t => by
    refine .tup ?_ (dqs_unl hB h t)
    rcases s with (s | ⟨o, s⟩) | s
    · rcases hB _ _ s with q | q
      · exact .inl (.inl q)
      · exact q.elim
    · rcases hB _ _ s with q | q
      · exact .inl (.inr ⟨o, q⟩)
      · exact q.elim
    · exact .inr s
  | _, _, h, .scr e s => by
    refine .scr e ?_
    rcases s with (s | ⟨o, s⟩) | s
    · rcases hB _ _ s with q | q
      · exact .inl (.inl q)
      · exact q.elim
    · rcases hB _ _ s with q | q
      · exact .inl (.inr ⟨o, q⟩)
      · exact q.elim
    · exact .inr s
  | _, _, h, .obj e _ _ => by subst e; cases h
  | _, _, h, .dft e _ _ _ => by subst e; cases h
  | _, _, h, .dct e _ _ _ => by subst e; cases h
  | _, _, h, .fdk e _ _ _ => by subst e; cases h
theorem dqs_unl {K : PySem.W.Frag} {B B2 : Hp} (hB : ∀ a o, B a = some o → B2 a = some o ∨ isLk o) : ∀ {vs : List V} {ds : List PyData}, noFs ds = true → DqAll K B vs ds → DqAll K B2 vs ds
  | _, _, _, .nil => .nil
  | _, _, h, .cons p t => by
    have h' := Bool.and_eq_true_iff.mp h
    exact .cons (dq_unl hB h'.1 p) (dqs_unl hB h'.2 t)
end
def vF : Sl → Bool
  | .no => true
  | .v d => noF d
  | _ => false
def allF : Nat → List Sl → Bool
  | _, [] => true
  | 0, _ :: r => r.all vF
  | i + 1, s :: r => vF s && allF i r
theorem vF_is {s : Sl} (h : vF s = true) : s = .no ∨ ∃ d, s = .v d ∧ noF d = true := by
  cases s with
  | no => exact .inl rfl
  | v d => exact .inr ⟨d, rfl, h⟩
  | _ => cases h
theorem allF_is : ∀ {i : Nat} {ρ : List Sl}, allF i ρ = true → ∀ j s, j ≠ i → ρ[j]? = some s → s = .no ∨ ∃ d, s = .v d ∧ noF d = true
  | i, [], _, j, s, _, h => by cases h
  | 0, _ :: r, h, 0, s, hj, _ => absurd rfl hj
  | 0, _ :: r, h, j + 1, s, _, hs => by
    rw [List.getElem?_cons_succ] at hs
    exact vF_is (List.all_eq_true.mp h s (List.mem_of_getElem? hs))
  | i + 1, x :: r, h, 0, s, _, hs => by
    cases hs
    exact vF_is (Bool.and_eq_true_iff.mp h).1
  | i + 1, x :: r, h, j + 1, s, hj, hs => by
    rw [List.getElem?_cons_succ] at hs
    exact allF_is (Bool.and_eq_true_iff.mp h).2 j s (by omega) hs
theorem lk_inv {K : PySem.W.Frag} {B : Hp} {v : V} {l : Addr} {kvs : List (Key × PyData)} (p : Dq K B v (lkD l kvs)) : v = .ref l ∧ ∃ o ys kvs', lkK l kvs = lkK l kvs' ∧ B l = some (.frz o (.dK ys)) ∧ KDp K B ys kvs' := by
  cases p with
  | scr e s => exact (lkK_scr e.symm).elim
  | obj e s t => exact (lkK_obK e.symm).elim
  | dft e s z t => exact (lkK_dfK e.symm).elim
  | dct e s z t => exact (lkK_dtK e.symm).elim
  | fdk e s z t =>
    have e' := e
    injection e with e1 _
    injection e1 with _ e1
    injection e1 with e1
    have e1 := Int.ofNat.inj e1
    subst e1
    exact ⟨rfl, _, _, _, e', s, kdp_of z t⟩
section
variable {K : PySem.W.Frag} {B F H : Hp} {σ : L2.St} {ρ : List Sl} {i : Nat} {kvs : List (Key × PyData)}
theorem _root_.Dl.EnvB.lockD (I : EnvB K B F H σ ρ) (hi : ρ[i]? = some (.od kvs)) (hA : allF i ρ = true) : ∃ l ys, σ[i]? = some (some (.ref l)) ∧ H l = some (.dK ys) ∧ ∀ od : Obj, EnvB K (upd B l (.frz od (.dK ys))) F (upd H l (.frz od (.dK ys))) σ (ρ.set i (.v (lkD l kvs))) ∧
    ∀ B' H' σ' ρ', Same (upd B l (.frz od (.dK ys))) B' → EnvB K B' F H' σ' (ρ'.set i (.v (lkD l kvs))) → i < ρ'.length → allF i ρ' = true → H' l = some (.frz od (.dK ys)) ∧ ∃ B2, Same B B2 ∧ EnvB K B2 F (upd H' l (.dK ys)) σ' (ρ'.set i (.od kvs)) := by
  obtain ⟨O, h1, h2⟩ := I.own
  have hil : i < ρ.length := (List.getElem?_eq_some_iff.mp hi).1
  rcases h2 i _ hi with z | ⟨x, hx, l, ys, e1, e2, e3, e4⟩
  · cases z
  subst e1
  obtain ⟨q1, q2, q3⟩ := h1 l _ e2
  have sB : ∀ o : HO, Same B (upd B l o) := fun o => same_upd q1
  refine ⟨l, ys, hx, e3, fun od => ⟨⟨by rw [List.length_set, I.ln], same_upd2 I.bh, fun a u e => ?_, fun a u e => ?_, fun _ => none, fun a t e => (by cases e), fun j s hs => ?_⟩, fun B' H' σ' ρ' s1 I' hl' hA' => ?_⟩⟩
  · rw [upd_ne (ne_of_none e q2)]; exact I.fh a u e
  · rw [upd_ne (ne_of_none e q2)]; exact I.dj a u e
  · by_cases hj : i = j
    · subst hj
      rw [List.getElem?_set_self hil] at hs
      cases hs
      exact .inr ⟨_, hx, .fdk rfl upd_same (kdp_ks e4) (dpa_mono (sB _) (kdp_vals e4))⟩
    · rw [List.getElem?_set_ne hj] at hs
      rcases allF_is hA j s (fun z => hj z.symm) hs with z | ⟨d, rfl, _⟩
      · exact .inl z
      · rcases h2 j _ hs with z | ⟨y, hy, hh⟩
        · cases z
        · exact .inr ⟨y, hy, dp_mono (sB _) hh⟩
  · have hb : B' l = some (.frz od (.dK ys)) := s1 l _ upd_same
    refine ⟨I'.bh l _ hb, fun a => if a = l then none else B' a, fun a u e => ?_, ?_⟩
    · show (if a = l then none else B' a) = some u
      rw [if_neg (ne_of_none e q1)]
      exact s1 a u (sB _ a u e)
    · obtain ⟨O', g1, g2⟩ := I'.own
      refine ⟨by rw [List.length_set]; have := I'.ln; rw [List.length_set] at this; exact this, fun a u e => ?_, fun a u e => ?_, fun a u e => ?_, fun a => if a = l then some (i, none) else none, fun a t e => ?_, fun j s hs => ?_⟩
      · have e : (if a = l then none else B' a) = some u := e
        by_cases ha : a = l
        · rw [if_pos ha] at e; cases e
        · rw [if_neg ha] at e
          rw [upd_ne ha]; exact I'.bh a u e
      · rw [upd_ne (ne_of_none e q2)]; exact I'.fh a u e
      · show (if a = l then none else B' a) = none ∧ _
        rw [if_neg (ne_of_none e q2)]; exact I'.dj a u e
      · by_cases ha : a = l
        · show (if a = l then none else B' a) = none ∧ _
          rw [ha, if_pos rfl, upd_same]
          exact ⟨rfl, q2, fun z => by cases z⟩
        · have e : (if a = l then some (i, (none : Option Str)) else none) = some t := e
          rw [if_neg ha] at e; cases e
      · by_cases hj : i = j
        · subst hj
          rw [List.getElem?_set_self hl'] at hs
          cases hs
          rcases g2 i (.v (lkD l kvs)) (List.getElem?_set_self hl') with z | ⟨y, hy, hh⟩
          · cases z
          · obtain ⟨ey, _⟩ := lk_inv hh
            subst ey
            refine .inr ⟨_, hy, l, ys, rfl, if_pos rfl, upd_same, kdp_mono (fun a u e => ?_) e4⟩
            rw [if_neg (ne_of_none e q1)]
            exact s1 a u (sB _ a u e)
        · rw [List.getElem?_set_ne hj] at hs
          rcases allF_is hA' j s (fun z => hj z.symm) hs with z | ⟨d, rfl, hn⟩
          · exact .inl z
          · rcases g2 j (.v d) (by rw [List.getElem?_set_ne hj]; exact hs) with z | ⟨y, hy, hh⟩
            · cases z
            · refine .inr ⟨y, hy, dq_unl (fun a o e => ?_) hn hh⟩
              by_cases ha : a = l
              · rw [ha, hb] at e
                cases e
                exact .inr trivial
              · exact .inl (by rw [if_neg ha]; exact e)
end
open Classical in
/-- the statement runs while the dict in slot i is locked -/
noncomputable def sLockD (i : Nat) (s : RS) : RS := fun ρ => match gD ρ i with
  | some kvs => if h : allF i ρ = true ∧ ∃ ρ2 : List Sl, i < ρ2.length ∧ allF i ρ2 = true ∧ ∀ a, s (ρ.set i (.v (lkD a kvs))) = some (.nx (ρ2.set i (.v (lkD a kvs)))) then some (.nx ((choose h.2).set i (.od kvs))) else none
  | none => none
theorem sLockD_is {i : Nat} {s : RS} {ρ ρ2 : List Sl} {kvs : List (Key × PyData)} (h0 : gD ρ i = some kvs) (h1 : allF i ρ = true) (h2 : i < ρ2.length) (h3 : allF i ρ2 = true) (h4 : ∀ a, s (ρ.set i (.v (lkD a kvs))) = some (.nx (ρ2.set i (.v (lkD a kvs))))) : sLockD i s ρ = some (.nx (ρ2.set i (.od kvs))) := by
  have hc : allF i ρ = true ∧ ∃ ρ2 : List Sl, i < ρ2.length ∧ allF i ρ2 = true ∧ ∀ a, s (ρ.set i (.v (lkD a kvs))) = some (.nx (ρ2.set i (.v (lkD a kvs)))) := ⟨h1, ρ2, h2, h3, h4⟩
  unfold sLockD
  rw [h0]
  try dsimp only
  rw [dif_pos hc]
  have q := (Classical.choose_spec hc.2).2.2 0
  rw [h4 0] at q
  injection q with q
  injection q with q
  have q2 := congrArg (fun l : List Sl => l.set i (.od kvs)) q
  try dsimp only at q2
  rw [List.set_set, List.set_set] at q2
  rw [q2]
section
variable {M : Md} {k : Nat} {N : List Str} {xa : Nat → Addr} {sc : Sco} {tr : Bool} {st : Stmt} {s : RS}
theorem ss_lockD (i : Nat) (h : SS M k N xa sc tr st s) : SS M k N xa sc tr st (sLockD i s) := ⟨fun X W cn t ρ r hh => by
  unfold sLockD at hh
  split at hh
  · rename_i kvs q
    split at hh
    · rename_i hc
      have hr := Option.some.inj hh
      obtain ⟨g1, g2, g3⟩ := Classical.choose_spec hc.2
      refine ds_of (ps_lock ps_sem) fun B F σ H I E f => ?_
      obtain ⟨l, ys, e1, e2, e3⟩ := I.lockD (gD_get q).at hc.1
      refine ⟨l, _, e2, trivial, fun od => ?_⟩
      obtain ⟨I1, back⟩ := e3 od
      refine h.ok X W cn t _ _ (g3 l) _ F σ _ I1 _ ⟨fun ρ' σ' H' B' hn s1 I2 => ?_, fun d ρ' x σ' H' B' hn => (by cases hn), fun C ρ' σ' H' B' hn => ?_, fun ρ' σ' H' B' hn => (by cases hn), fun ρ' σ' H' B' hn => (by cases hn)⟩
      · cases hn
        obtain ⟨k1, B2, k2, k3⟩ := back B' H' σ' _ s1 I2 g1 g2
        exact ⟨k1, f.nx _ _ _ B2 hr.symm k2 k3⟩
      · obtain ⟨c, _, hn⟩ := hn
        cases hn
    · cases hh
  · cases hh⟩
end
end Rl

/-! a locked dict is read: x[e], and what is walked -/
namespace Rl
open PySem PySem.Spec PyProof.Rows L2 Dl
def lkRows : List (PyData × PyData) → Option (List (Key × PyData))
  | [] => some []
  | (k, d) :: r => match keyOf k with
    | some q => (lkRows r).map ((q, d) :: ·)
    | none => none
theorem keyOf_kt (q : Key) : keyOf (ktD q) = some q := by cases q <;> rfl
theorem lkRows_is : ∀ kvs : List (Key × PyData), lkRows (kvs.map fun kv => (ktD kv.1, kv.2)) = some kvs
  | [] => rfl
  | (q, d) :: r => by
    show (match keyOf (ktD q) with | some q' => (lkRows (r.map fun kv : Key × PyData => (ktD kv.1, kv.2))).map ((q', d) :: ·) | none => none) = _
    rw [keyOf_kt]
    dsimp only
    rw [lkRows_is r]
    rfl
def lkOf : PyData → Option (List (Key × PyData))
  | .dict ((.bool false, .int _) :: rows) => lkRows rows
  | _ => none
theorem lkOf_is {a : Addr} {kvs : List (Key × PyData)} : lkOf (lkD a kvs) = some kvs := lkRows_is kvs
theorem lk_inv2 {K : PySem.W.Frag} {B : Hp} {v : V} {d : PyData} {kvs : List (Key × PyData)} (p : Dq K B v d) (h : lkOf d = some kvs) : ∃ a o ys, v = .ref a ∧ B a = some (.frz o (.dK ys)) ∧ KDp K B ys kvs := by
  cases p with
  | scr e s =>
    rename_i a ns kv
    subst e
    cases ns <;> cases h
  | obj e s t =>
    subst e
    cases h
  | dft e s z t =>
    subst e
    cases h
  | dct e s z t =>
    subst e
    cases h
  | fdk e s z t =>
    subst e
    have h2 := h.symm.trans lkOf_is
    injection h2 with h2
    subst h2
    exact ⟨_, _, _, rfl, s, kdp_of z t⟩
  | _ => cases h
def lgK (o : Option (List (Key × PyData))) (q : Option Key) : Option RO := match o, q with
  | some kvs, some q => (Dl.getD kvs q).map .ret
  | _, _ => none
/-- a[b], a a locked dict -/
def rDGetL (a b : RE) : RE := fun ρ => vE (a ρ) fun d => vE (b ρ) fun dk => lgK (lkOf d) (keyOf dk)
section
variable {M : Md} {k : Nat} {N : List Str} {xa : Nat → Addr} {sc : Sco} {a b tg : Expr} {pos : Pos} {ra rb : RE}
theorem se_dgetL (ha : SE M k N xa sc a ra) (hb : SE M k N xa sc b rb) (hs : NoSl b := by intro _ _; rfl) : SE M k N xa sc (.Subscript a b pos) (rDGetL ra rb) where
  ok X W c ρ d hh := by
    obtain ⟨d1, h1, hh⟩ := vE_inv hh
    obtain ⟨d2, h2, hh⟩ := vE_inv hh
    unfold lgK at hh
    split at hh
    · rename_i kvs q e1 e2
      have hq := map_ret hh
      rw [keyOf_ok e2] at h2
      refine de_of (pe_dget (by have := c.un; omega) pe_sem pe_sem hs) fun B F σ H I Q qq => ?_
      refine ha.ok X W c ρ d1 h1 B F σ H I _ fun v H1 B1 s1 I1 p1 => ?_
      refine hb.ok X W c ρ _ h2 B1 F σ H1 I1 _ fun y H2 B2 s2 I2 p2 => ?_
      rw [keyD_inv p2]
      obtain ⟨l, o, ys, rfl, hl, hk⟩ := lk_inv2 (dp_mono s2 p1) e1
      rcases kdp_get (k := q) hk with ⟨_, z⟩ | ⟨v, d0, g1, g2, g3⟩
      · rw [hq] at z; cases z
      · rw [hq] at g2
        cases g2
        exact ⟨l, v, rfl, .inl ⟨ys, q, .inr ⟨o, I2.bh _ _ hl⟩, rfl, g1.symm⟩, qq v _ B2 (s1.trans s2) I2 g3⟩
    · cases hh
  ex X W c ρ c' hh := by
    obtain ⟨d1, h1, hh⟩ := vE_inv hh
    obtain ⟨d2, h2, hh⟩ := vE_inv hh
    unfold lgK at hh
    split at hh
    · exact (map_exc hh).elim
    · cases hh
/-- what is walked: the keys of a locked dict -/
def iLk (r : RE) : RA := fun ρ => match r ρ with
  | some (.ret d) => (lkOf d).map fun kvs => .vs (kvs.map fun kv => ktD kv.1)
  | _ => none
theorem si_lk (h : SE M k N xa sc a ra) : SI M k N xa sc tg a (iLk ra) where
  ok X W c ρ ds hh := by
    unfold iLk at hh
    split at hh
    · rename_i d q
      obtain ⟨kvs, e1, e2⟩ := map_inv hh
      injection e2 with e2
      subst e2
      refine di_of (pi_keys pe_sem) fun B F σ H I Rk r => h.ok X W c ρ d q B F σ H I _ fun v H1 B1 s1 I1 p => ?_
      obtain ⟨l, o, ys, rfl, hl, hk⟩ := lk_inv2 p e1
      have ek := kdp_ks hk
      have lk : ys.length = kvs.length := by have := congrArg List.length ek; rwa [List.length_map, List.length_map] at this
      refine ⟨l, o, rfl, .inl ⟨ys, I1.bh _ _ hl, r _ H1 B1 s1 I1 fun B2 F2 H2 σ2 ρ2 s2 I2 => ⟨fun i d hd => ?_, ?_⟩⟩⟩
      · rw [List.getElem?_map] at hd
        cases hq : kvs[i]? with
        | none => rw [hq] at hd; cases hd
        | some kv =>
          rw [hq] at hd
          cases hd
          have hil := (List.getElem?_eq_some_iff.mp hq).1
          refine ⟨⟨(s2.trans I2.bh) _ _ hl, by omega⟩, fun x H3 hy => ?_⟩
          obtain ⟨rfl, k', v', hkv, rfl⟩ := hy
          have e3 : k' = kv.1 := by
            have g1 : (ys.map (·.1))[i]? = some k' := by rw [List.getElem?_map, hkv]; rfl
            rw [ek, List.getElem?_map, hq] at g1
            exact (Option.some.inj g1).symm
          subst e3
          refine ⟨B2, Same.refl B2, I2, ?_⟩
          show Dq M.K B2 (kV kv.1) (ktD kv.1)
          cases kv.1 with
          | inl n => exact .int n
          | inr x => exact .str x
      · exact ⟨(s2.trans I2.bh) _ _ hl, by rw [List.length_map]; omega⟩
    · cases hh
  ex X W c ρ c' hh := by
    unfold iLk at hh
    split at hh
    · obtain ⟨_, _, z⟩ := map_inv hh
      cases z
    · cases hh
end
end Rl

namespace Rl
open PySem PySem.Spec PyProof.Rows L2 Dl
section
variable {M : Md} {k kf : Nat} {N : List Str} {xa : Nat → Addr} {sc : Sco} {pos : Pos} {x : Str}
theorem se_gtup {d : PyData} (h : ∃ a, M.mg x = some (.ref a) ∧ ∀ B, Dq M.K B (.ref a) d) (hv : (glB sc x && okN x) = true := by decide +kernel) : SE M k N xa sc (.Name x pos) (rK d) := by
  obtain ⟨a, h1, h2⟩ := h
  exact se_glob (v := .ref a) h1 rfl h2 hv
theorem se_gint {n : Int} (h : ∃ t, M.mg x = some (.int n t)) (hv : (glB sc x && okN x) = true := by decide +kernel) : SE M k N xa sc (.Name x pos) (rK (.int n)) := by
  obtain ⟨a, h1⟩ := h
  exact se_glob (v := .int n) h1 ⟨_, rfl⟩ (fun _ => .int _) hv
end
end Rl

/-! The P layer: how the plain evaluator is rewritten. -/
namespace Rl
open PySem PySem.Spec PyProof.Rows L2 Dl
def fin (r : Option Res) : Option RO := match r with
  | some (.nx _) => some (.ret .none)
  | some (.rt d _) => some (.ret d)
  | some (.ex c _) => some (.exc c)
  | _ => none
theorem fin_nx {ρ : List Sl} : fin (some (.nx ρ)) = some (.ret .none) := rfl
theorem fin_rt {d : PyData} {ρ : List Sl} : fin (some (.rt d ρ)) = some (.ret d) := rfl
theorem fin_ex {c : Nat} {ρ : List Sl} : fin (some (.ex c ρ)) = some (.exc c) := rfl
def seqK (o : Option Res) (s : RS) : Option Res := match o with
  | some (.nx ρ') => s ρ'
  | r => r
theorem seqK_nx {ρ : List Sl} {s : RS} : seqK (some (.nx ρ)) s = s ρ := rfl
theorem seqK_rt {d : PyData} {ρ : List Sl} {s : RS} : seqK (some (.rt d ρ)) s = some (.rt d ρ) := rfl
theorem seqK_ex {d : Nat} {ρ : List Sl} {s : RS} : seqK (some (.ex d ρ)) s = some (.ex d ρ) := rfl
theorem seqK_bk {ρ : List Sl} {s : RS} : seqK (some (.bk ρ)) s = some (.bk ρ) := rfl
theorem seqK_ct {ρ : List Sl} {s : RS} : seqK (some (.ct ρ)) s = some (.ct ρ) := rfl
theorem e_seq {a b : RS} {ρ : List Sl} : sSeq a b ρ = seqK (a ρ) b := rfl
theorem e_nil {ρ : List Sl} : sNil ρ = some (.nx ρ) := rfl
def ifK {β : Type} (o : Option Bool) (a b : List Sl → Option β) (ρ : List Sl) : Option β := match o with
  | some true => a ρ
  | some false => b ρ
  | none => none
theorem ifK_t {β : Type} {a b : List Sl → Option β} {ρ : List Sl} : ifK (some true) a b ρ = a ρ := rfl
theorem ifK_f {β : Type} {a b : List Sl → Option β} {ρ : List Sl} : ifK (some false) a b ρ = b ρ := rfl
theorem ifK_p {β : Type} {p : Prop} [Decidable p] {a b : List Sl → Option β} {ρ : List Sl} (h : p) : ifK (some (decide p)) a b ρ = a ρ := by rw [decide_eq_true h]; rfl
theorem ifK_n {β : Type} {p : Prop} [Decidable p] {a b : List Sl → Option β} {ρ : List Sl} (h : ¬ p) : ifK (some (decide p)) a b ρ = b ρ := by rw [decide_eq_false h]; rfl
theorem ifK_b {β : Type} {c : Bool} {a b : List Sl → Option β} {ρ : List Sl} : ifK (some c) a b ρ = if c = true then a ρ else b ρ := by cases c <;> rfl
theorem e_if {t : RT} {a b : RS} {ρ : List Sl} : sIf t a b ρ = ifK (t ρ) a b ρ := rfl
theorem e_rif {t : RT} {a b : RE} {ρ : List Sl} : rIf t a b ρ = ifK (t ρ) a b ρ := rfl
theorem e_set {i : Nat} {e : RE} {ρ : List Sl} : sSet i e ρ = bS (e ρ) ρ fun d => nxO (sS ρ i (.v d)) := rfl
def olK (o : Option (List PyData)) (ρ : List Sl) (i : Nat) : Option Res := match o with
  | some ds => nxO (sS ρ i (.ol ds))
  | none => none
theorem olK_s {ds : List PyData} {ρ : List Sl} {i : Nat} : olK (some ds) ρ i = nxO (sS ρ i (.ol ds)) := rfl
theorem e_new {i : Nat} {e : RN} {ρ : List Sl} : sNew i e ρ = olK (e ρ) ρ i := rfl
theorem nxO_s {ρ : List Sl} : nxO (some ρ) = some (.nx ρ) := rfl
theorem e_asg {p : Pat} {e : RE} {ρ : List Sl} : sAsg p e ρ = bS (e ρ) ρ fun d => nxO (ps p d ρ) := rfl
theorem e_ret {e : RE} {ρ : List Sl} : sRet e ρ = bS (e ρ) ρ fun d => some (.rt d ρ) := rfl
theorem e_retN {ρ : List Sl} : sRetN ρ = some (.rt .none ρ) := rfl
theorem e_exp {e : RE} {ρ : List Sl} : sExp e ρ = bS (e ρ) ρ fun _ => some (.nx ρ) := rfl
theorem e_brk {ρ : List Sl} : sBrk ρ = some (.bk ρ) := rfl
theorem e_cnt {ρ : List Sl} : sCnt ρ = some (.ct ρ) := rfl
theorem e_raise {c : Nat} {ρ : List Sl} : sRaise c ρ = some (.ex c ρ) := rfl
def parK (js : List Nat) (o : Option RL) (ρ : List Sl) : Option Res := match o with
  | some (.vs ds) => nxO (psL js ds ρ)
  | _ => none
theorem parK_s {js : List Nat} {ds : List PyData} {ρ : List Sl} : parK js (some (.vs ds)) ρ = nxO (psL js ds ρ) := rfl
theorem e_par {js : List Nat} {r : RA} {ρ : List Sl} : sPar js r ρ = parK js (r ρ) ρ := rfl
theorem psL_n {ρ : List Sl} : psL [] [] ρ = some ρ := rfl
def psK (js : List Nat) (ds : List PyData) (o : Option (List Sl)) : Option (List Sl) := match o with
  | some ρ1 => psL js ds ρ1
  | none => none
theorem psK_s {js : List Nat} {ds : List PyData} {ρ : List Sl} : psK js ds (some ρ) = psL js ds ρ := rfl
theorem psL_c {j : Nat} {js : List Nat} {d : PyData} {ds : List PyData} {ρ : List Sl} : psL (j :: js) (d :: ds) ρ = psK js ds (sS ρ j (.v d)) := rfl
theorem ps_nm {j : Nat} {d : PyData} {ρ : List Sl} : ps (.nm j) d ρ = sS ρ j (.v d) := rfl
theorem ps_tp {js : List Nat} {ds : List PyData} {ρ : List Sl} : ps (.tp js) (.tuple ds) ρ = psL js ds ρ := rfl
def appK (i : Nat) (ρ : List Sl) (d : PyData) (o : Option (List PyData)) : Option Res := match o with
  | some ds => if ds.length < 10000000 then nxO (sS ρ i (.ol (ds ++ [d]))) else none
  | none => none
theorem appK_s {i : Nat} {ρ : List Sl} {d : PyData} {ds : List PyData} (h : ds.length < 10000000) : appK i ρ d (some ds) = nxO (sS ρ i (.ol (ds ++ [d]))) := if_pos h
theorem e_app {i : Nat} {e : RE} {ρ : List Sl} : sApp i e ρ = vE (e ρ) fun d => appK i ρ d (gO ρ i) := rfl
def extK (i : Nat) (ρ : List Sl) (d : PyData) (o : Option (List PyData)) : Option Res := match o, d with
  | some ds, .list es => if ds.length + es.length ≤ 10000000 then nxO (sS ρ i (.ol (ds ++ es))) else none
  | _, _ => none
theorem extK_s {i : Nat} {ρ : List Sl} {ds es : List PyData} (h : ds.length + es.length ≤ 10000000) : extK i ρ (.list es) (some ds) = nxO (sS ρ i (.ol (ds ++ es))) := if_pos h
theorem e_ext {i : Nat} {e : RE} {ρ : List Sl} : sExt i e ρ = vE (e ρ) fun d => extK i ρ d (gO ρ i) := rfl
theorem gO_z {d : List PyData} {r : List Sl} : gO (.ol d :: r) 0 = some d := rfl
theorem gO_zv {d : PyData} {r : List Sl} : gO (.v d :: r) 0 = none := rfl
theorem gO_zn {r : List Sl} : gO (.no :: r) 0 = none := rfl
theorem gO_s {x : Sl} {r : List Sl} {n : Nat} : gO (x :: r) (n + 1) = gO r n := rfl
theorem e_for {p : Pat} {it : RA} {s : RS} {ρ : List Sl} : sFor p it s ρ = bAS (it ρ) ρ fun ds => forL (onPat p s) ds ρ := rfl
def frzK (i : Nat) (s : RS) (ρ : List Sl) (o : Option (List PyData)) : Option Res := match o with
  | some ds => match sS ρ i (.v (.list ds)) with
    | some ρ' => s ρ'
    | none => none
  | none => s ρ
def frzK2 (s : RS) (o : Option (List Sl)) : Option Res := match o with
  | some ρ' => s ρ'
  | none => none
theorem frzK_s {i : Nat} {s : RS} {ρ : List Sl} {ds : List PyData} : frzK i s ρ (some ds) = frzK2 s (sS ρ i (.v (.list ds))) := rfl
theorem frzK_n {i : Nat} {s : RS} {ρ : List Sl} : frzK i s ρ none = s ρ := rfl
theorem frzK2_s {s : RS} {ρ : List Sl} : frzK2 s (some ρ) = s ρ := rfl
theorem e_frz {i : Nat} {s : RS} {ρ : List Sl} : sFrz i s ρ = frzK i s ρ (gO ρ i) := rfl
/-! expressions -/
theorem e_var {i : Nat} {ρ : List Sl} : rVar i ρ = (gS ρ i).map .ret := rfl
theorem e_k {d : PyData} {ρ : List Sl} : rK d ρ = some (.ret d) := rfl
theorem e_bin {f : PyData → PyData → Option PyData} {a b : RE} {ρ : List Sl} : rBin f a b ρ = bE (a ρ) fun d1 => bE (b ρ) fun d2 => (f d1 d2).map .ret := rfl
theorem e_v2 {f : PyData → PyData → Option PyData} {a b : RE} {ρ : List Sl} : rV2 f a b ρ = vE (a ρ) fun d1 => vE (b ρ) fun d2 => (f d1 d2).map .ret := rfl
theorem e_cmp {f : PyData → PyData → Option Bool} {a b : RE} {ρ : List Sl} : tCmp f a b ρ = vE (a ρ) fun d1 => vE (b ρ) fun d2 => f d1 d2 := rfl
theorem e_b {t : RT} {ρ : List Sl} : rB t ρ = (t ρ).map fun b => .ret (.bool b) := rfl
theorem e_tru {a : RE} {ρ : List Sl} : tTru a ρ = vE (a ρ) truD := rfl
theorem e_not {t : RT} {ρ : List Sl} : tNot t ρ = (t ρ).map (!·) := rfl
def andK (o : Option Bool) (u : RT) (ρ : List Sl) : Option Bool := match o with
  | some true => u ρ
  | some false => some false
  | none => none
def orK (o : Option Bool) (u : RT) (ρ : List Sl) : Option Bool := match o with
  | some true => some true
  | some false => u ρ
  | none => none
theorem andK_t {u : RT} {ρ : List Sl} : andK (some true) u ρ = u ρ := rfl
theorem andK_f {u : RT} {ρ : List Sl} : andK (some false) u ρ = some false := rfl
theorem orK_t {u : RT} {ρ : List Sl} : orK (some true) u ρ = some true := rfl
theorem orK_f {u : RT} {ρ : List Sl} : orK (some false) u ρ = u ρ := rfl
theorem andK_b {u : RT} {ρ : List Sl} {b b2 : Bool} (h : b = true → u ρ = some b2) : andK (some b) u ρ = some (b && b2) := by cases b <;> first | rfl | exact h rfl
theorem orK_b {u : RT} {ρ : List Sl} {b b2 : Bool} (h : b = false → u ρ = some b2) : orK (some b) u ρ = some (b || b2) := by cases b <;> first | rfl | exact h rfl
theorem e_and {t u : RT} {ρ : List Sl} : tAnd t u ρ = andK (t ρ) u ρ := rfl
theorem e_or {t u : RT} {ρ : List Sl} : tOr t u ρ = orK (t ρ) u ρ := rfl
def andV (o : Option Bool) (b : RE) (ρ : List Sl) : Option RO := match o with
  | some true => (bl1 (b ρ)).map fun y => .ret (.bool y)
  | some false => some (.ret (.bool false))
  | none => none
def orV (o : Option Bool) (b : RE) (ρ : List Sl) : Option RO := match o with
  | some true => some (.ret (.bool true))
  | some false => (bl1 (b ρ)).map fun y => .ret (.bool y)
  | none => none
theorem andV_t {u : RE} {ρ : List Sl} : andV (some true) u ρ = (bl1 (u ρ)).map fun y => .ret (.bool y) := rfl
theorem andV_f {u : RE} {ρ : List Sl} : andV (some false) u ρ = some (.ret (.bool false)) := rfl
theorem orV_t {u : RE} {ρ : List Sl} : orV (some true) u ρ = some (.ret (.bool true)) := rfl
theorem orV_f {u : RE} {ρ : List Sl} : orV (some false) u ρ = (bl1 (u ρ)).map fun y => .ret (.bool y) := rfl
theorem andV_b {u : RE} {ρ : List Sl} {b b2 : Bool} (h : b = true → u ρ = some (.ret (.bool b2))) : andV (some b) u ρ = some (.ret (.bool (b && b2))) := by cases b with
  | false => rfl
  | true => show (bl1 (u ρ)).map _ = _; rw [h rfl]; rfl
theorem orV_b {u : RE} {ρ : List Sl} {b b2 : Bool} (h : b = false → u ρ = some (.ret (.bool b2))) : orV (some b) u ρ = some (.ret (.bool (b || b2))) := by cases b with
  | true => rfl
  | false => show (bl1 (u ρ)).map _ = _; rw [h rfl]; rfl
theorem e_vand {a b : RE} {ρ : List Sl} : rAnd a b ρ = andV (bl1 (a ρ)) b ρ := rfl
theorem e_vor {a b : RE} {ρ : List Sl} : rOr a b ρ = orV (bl1 (a ρ)) b ρ := rfl
theorem bl1_s {b : Bool} : bl1 (some (.ret (.bool b))) = some b := rfl
theorem e_vnot {a : RE} {ρ : List Sl} : rNot a ρ = (bl1 (a ρ)).map fun y => .ret (.bool (!y)) := rfl
def negF (d : PyData) : Option RO := match d with
  | .int m => some (.ret (.int (-m)))
  | _ => none
theorem e_neg {a : RE} {ρ : List Sl} : rNeg a ρ = vE (a ρ) negF := rfl
theorem negF_i {m : Int} : negF (.int m) = some (.ret (.int (-m))) := rfl
theorem e_aNil {ρ : List Sl} : aNil ρ = some (.vs []) := rfl
def consK (o : Option RO) (r : RA) (ρ : List Sl) : Option RL := match o with
  | some (.ret d) => match r ρ with
    | some (.vs ds) => some (.vs (d :: ds))
    | x => x
  | some (.exc c) => some (.exc c)
  | none => none
def consK2 (d : PyData) (o : Option RL) : Option RL := match o with
  | some (.vs ds) => some (.vs (d :: ds))
  | x => x
theorem consK_r {d : PyData} {r : RA} {ρ : List Sl} : consK (some (.ret d)) r ρ = consK2 d (r ρ) := rfl
theorem consK_x {c : Nat} {r : RA} {ρ : List Sl} : consK (some (.exc c)) r ρ = some (.exc c) := rfl
theorem consK2_v {d : PyData} {ds : List PyData} : consK2 d (some (.vs ds)) = some (.vs (d :: ds)) := rfl
theorem consK2_x {d : PyData} {c : Nat} : consK2 d (some (.exc c)) = some (.exc c) := rfl
theorem e_aCons {a : RE} {r : RA} {ρ : List Sl} : aCons a r ρ = consK (a ρ) r ρ := rfl
theorem few_s {f : List PyData → PyData} {ds : List PyData} (h : ds.length ≤ 100000) : few f ds = some (.ret (f ds)) := if_pos h
theorem e_tup {r : RA} {ρ : List Sl} : rTup r ρ = bA (r ρ) (few .tuple) := rfl
theorem e_lst {r : RA} {ρ : List Sl} : rLst r ρ = bA (r ρ) (few .list) := rfl
def lstK (o : Option RL) : Option (List PyData) := match o with
  | some (.vs ds) => if ds.length ≤ 100000 then some ds else none
  | _ => none
theorem lstK_s {ds : List PyData} (h : ds.length ≤ 100000) : lstK (some (.vs ds)) = some ds := if_pos h
theorem e_nLst {r : RA} {ρ : List Sl} : nLst r ρ = lstK (r ρ) := rfl
theorem e_of {n : RN} {ρ : List Sl} : rOf n ρ = (n ρ).map fun ds => .ret (.list ds) := rfl
def b1K (f : List PyData → Option PyData) (o : Option RL) : Option RO := match o with
  | some (.vs ds) => (f ds).map .ret
  | _ => none
theorem b1K_s {f : List PyData → Option PyData} {ds : List PyData} : b1K f (some (.vs ds)) = (f ds).map .ret := rfl
theorem e_b1 {f : List PyData → Option PyData} {r : RA} {ρ : List Sl} : rB1 f r ρ = b1K f (r ρ) := rfl
theorem e_call {call : RC} {f : Nat} {r : RA} {ρ : List Sl} : rCall call f r ρ = bA (r ρ) (call f) := rfl
theorem e_oN {ρ : List Sl} : oN ρ = some none := rfl
def oSF (d : PyData) : Option (Option Int) := match d with
  | .int n => some (some n)
  | _ => none
theorem oSF_i {n : Int} : oSF (.int n) = some (some n) := rfl
theorem e_oS {a : RE} {ρ : List Sl} : oS a ρ = vE (a ρ) oSF := rfl
def slK (d : PyData) (l : Option (Option Int)) (u : RO1) (ρ : List Sl) : Option RO := match l with
  | some l => match u ρ with
    | some h => (slF d l h).map .ret
    | none => none
  | none => none
def slK2 (d : PyData) (l : Option Int) (u : Option (Option Int)) : Option RO := match u with
  | some h => (slF d l h).map .ret
  | none => none
theorem slK_s {d : PyData} {l : Option Int} {u : RO1} {ρ : List Sl} : slK d (some l) u ρ = slK2 d l (u ρ) := rfl
theorem slK2_s {d : PyData} {l h : Option Int} : slK2 d l (some h) = (slF d l h).map .ret := rfl
theorem e_sl {a : RE} {lo hi : RO1} {ρ : List Sl} : rSl a lo hi ρ = vE (a ρ) fun d => slK d (lo ρ) hi ρ := rfl
theorem e_bor {a : RE} {ρ : List Sl} : rBor a ρ = (fun o => match o with | some (.ret d) => if noL d = true then some (.ret d) else none | r => r) (a (vw ρ)) := rfl
def borK (o : Option RO) : Option RO := match o with
  | some (.ret d) => if noL d = true then some (.ret d) else none
  | r => r
theorem borK_s {d : PyData} (h : noL d = true) : borK (some (.ret d)) = some (.ret d) := if_pos h
theorem bor_i {n : Int} : borK (some (.ret (.int n))) = some (.ret (.int n)) := rfl
theorem bor_b {n : Bool} : borK (some (.ret (.bool n))) = some (.ret (.bool n)) := rfl
theorem bor_n : borK (some (.ret .none)) = some (.ret .none) := rfl
theorem bor_S {l : List Nat} : borK (some (.ret (S l))) = some (.ret (S l)) := rfl
theorem e_bor' {a : RE} {ρ : List Sl} : rBor a ρ = borK (a (vw ρ)) := rfl
theorem e_tbor {t : RT} {ρ : List Sl} : tBor t ρ = t (vw ρ) := rfl
theorem vw_n : vw [] = [] := rfl
theorem vw_v {d : PyData} {r : List Sl} : vw (.v d :: r) = .v d :: vw r := rfl
theorem vw_o {d : List PyData} {r : List Sl} : vw (.ol d :: r) = .v (.list d) :: vw r := rfl
theorem vw_no {r : List Sl} : vw (.no :: r) = .no :: vw r := rfl
theorem vw_b {a : Addr} {c : Str} {fs : List (Str × Fd)} {r : List Sl} : vw (.ob a c fs :: r) = .v (obD c fs) :: vw r := rfl
theorem vw_d {d : List (Key × PyData)} {r : List Sl} : vw (.od d :: r) = .no :: vw r := rfl
theorem e_isi {T : String} {a : RE} {ρ : List Sl} : rIsi T a ρ = vE (a ρ) fun d => isiF (isOb d) (isB T d) := rfl
theorem isiF_f {b : Bool} : isiF false b = some (.ret (.bool b)) := rfl
theorem isOb_n : isOb .none = false := rfl
theorem isOb_b {b : Bool} : isOb (.bool b) = false := rfl
theorem isOb_i {i : Int} : isOb (.int i) = false := rfl
theorem isOb_s {s : List Nat} : isOb (S s) = false := rfl
theorem isOb_l {l : List PyData} : isOb (.list l) = false := rfl
theorem isOb_t {l : List PyData} : isOb (.tuple l) = false := rfl
theorem e_isi2 {T U : String} {a : RE} {ρ : List Sl} : rIsi2 T U a ρ = vE (a ρ) fun d => isiF (isOb d) (isB T d || isB U d) := rfl
def lstF (o : Option RO) : Option RL := match o with
  | some (.ret (.list ds)) => some (.vs ds)
  | some (.ret (.tuple ds)) => some (.vs ds)
  | some (.ret (.str s)) => some (.vs (s.cps.toList.map fun q => S [q]))
  | some (.exc c) => some (.exc c)
  | _ => none
theorem e_iLst {a : RE} {ρ : List Sl} : iLst a ρ = lstF (a ρ) := rfl
theorem lstF_l {ds : List PyData} : lstF (some (.ret (.list ds))) = some (.vs ds) := rfl
theorem lstF_t {ds : List PyData} : lstF (some (.ret (.tuple ds))) = some (.vs ds) := rfl
theorem lstF_s {l : List Nat} : lstF (some (.ret (S l))) = some (.vs (l.map fun q => S [q])) := rfl
theorem lstF_x {c : Nat} : lstF (some (.exc c)) = some (.exc c) := rfl
def rng1F (d : PyData) : Option RL := match d with
  | .int m => if inR m = true then some (.vs (rangeD 0 m.toNat)) else none
  | _ => none
theorem e_rng1 {a : RE} {ρ : List Sl} : iRng1 a ρ = vE (a ρ) rng1F := rfl
theorem inR_of {m : Int} (h : -1000000000000 ≤ m ∧ m ≤ 1000000000000) : inR m = true := by
  unfold inR
  rw [Bool.and_eq_true]
  exact ⟨decide_eq_true (by omega), decide_eq_true (by omega)⟩
theorem rng1_s {m : Int} (h : -1000000000000 ≤ m ∧ m ≤ 1000000000000) : rng1F (.int m) = some (.vs (rangeD 0 m.toNat)) := if_pos (inR_of h)
def rng2F (d d2 : PyData) : Option RL := match d, d2 with
  | .int m, .int n => if (inR m && inR n) = true then some (.vs (rangeD m (n - m).toNat)) else none
  | _, _ => none
theorem e_rng2 {a b : RE} {ρ : List Sl} : iRng2 a b ρ = vE (a ρ) fun d => vE (b ρ) fun d2 => rng2F d d2 := rfl
theorem rng2_s {m n : Int} (h : -1000000000000 ≤ m ∧ m ≤ 1000000000000) (h2 : -1000000000000 ≤ n ∧ n ≤ 1000000000000) : rng2F (.int m) (.int n) = some (.vs (rangeD m (n - m).toNat)) := if_pos (by rw [inR_of h, inR_of h2]; rfl)
def downF (d d2 : PyData) : Option RL := match d, d2 with
  | .int m, .int n => if (inR m && inR n) = true then some (.vs (rangeDn m (m - n).toNat)) else none
  | _, _ => none
theorem e_down {a b : RE} {ρ : List Sl} : iDown a b ρ = vE (a ρ) fun d => vE (b ρ) fun d2 => downF d d2 := rfl
theorem down_s {m n : Int} (h : -1000000000000 ≤ m ∧ m ≤ 1000000000000) (h2 : -1000000000000 ≤ n ∧ n ≤ 1000000000000) : downF (.int m) (.int n) = some (.vs (rangeDn m (m - n).toNat)) := if_pos (by rw [inR_of h, inR_of h2]; rfl)
def enumF (d : PyData) : Option RL := match d with
  | .list x => some (.vs (enumD x))
  | .tuple x => some (.vs (enumD x))
  | _ => none
theorem e_enum {a : RE} {ρ : List Sl} : iEnum a ρ = vE (a ρ) enumF := rfl
theorem enumF_l {x : List PyData} : enumF (.list x) = some (.vs (enumD x)) := rfl
theorem enumF_t {x : List PyData} : enumF (.tuple x) = some (.vs (enumD x)) := rfl
def zipF (d d2 : PyData) : Option RL := match d, d2 with
  | .list x, .list y => some (.vs (zipD x y))
  | .tuple x, .tuple y => some (.vs (zipD x y))
  | _, _ => none
theorem e_zip {a b : RE} {ρ : List Sl} : iZip a b ρ = vE (a ρ) fun d => vE (b ρ) fun d2 => zipF d d2 := rfl
theorem zipF_l {x y : List PyData} : zipF (.list x) (.list y) = some (.vs (zipD x y)) := rfl
theorem zipF_t {x y : List PyData} : zipF (.tuple x) (.tuple y) = some (.vs (zipD x y)) := rfl
def chK (f g : PyData → PyData → Option Bool) (d2 : PyData) (o : Option Bool) (c : RE) (ρ : List Sl) : Option Bool := match o with
  | some true => vE (c ρ) fun d3 => g d2 d3
  | some false => some false
  | none => none
theorem chK_t {f g : PyData → PyData → Option Bool} {d2 : PyData} {c : RE} {ρ : List Sl} : chK f g d2 (some true) c ρ = vE (c ρ) fun d3 => g d2 d3 := rfl
theorem chK_f {f g : PyData → PyData → Option Bool} {d2 : PyData} {c : RE} {ρ : List Sl} : chK f g d2 (some false) c ρ = some false := rfl
theorem e_chain {f g : PyData → PyData → Option Bool} {a b c : RE} {ρ : List Sl} : tChain f g a b c ρ = vE (a ρ) fun d1 => vE (b ρ) fun d2 => chK f g d2 (f d1 d2) c ρ := rfl
def orTK (d : PyData) (o : Option Bool) (b : RE) (ρ : List Sl) : Option RO := match o with
  | some true => some (.ret d)
  | some false => vE (b ρ) fun d2 => some (.ret d2)
  | none => none
theorem orTK_t {d : PyData} {b : RE} {ρ : List Sl} : orTK d (some true) b ρ = some (.ret d) := rfl
theorem orTK_f {d : PyData} {b : RE} {ρ : List Sl} : orTK d (some false) b ρ = vE (b ρ) fun d2 => some (.ret d2) := rfl
theorem e_orT {a b : RE} {ρ : List Sl} : rOrT a b ρ = vE (a ρ) fun d => orTK d (truD d) b ρ := rfl
def tryK (i : Nat) (w : Nat → Option PyData) (o : Option Res) : Option Res := match o with
  | some (.ex c ρ') => if i < ρ'.length then (w c).map fun d => .rt d (noSlot ρ' i) else none
  | r => r
theorem e_tryW {i : Nat} {w : Nat → Option PyData} {s : RS} {ρ : List Sl} : sTryW i w s ρ = tryK i w (s ρ) := rfl
theorem tryK_rt {i : Nat} {w : Nat → Option PyData} {d : PyData} {ρ : List Sl} : tryK i w (some (.rt d ρ)) = some (.rt d ρ) := rfl
theorem tryK_nx {i : Nat} {w : Nat → Option PyData} {ρ : List Sl} : tryK i w (some (.nx ρ)) = some (.nx ρ) := rfl
theorem tryK_ex {i : Nat} {w : Nat → Option PyData} {c : Nat} {d : PyData} {ρ : List Sl} (h : i < ρ.length) (hw : w c = some d) : tryK i w (some (.ex c ρ)) = some (.rt d (noSlot ρ i)) := by
  show (if _ then _ else _) = _
  rw [if_pos h, hw]
  rfl
theorem e_dnew {i : Nat} {ρ : List Sl} : sDNew i ρ = nxO (sS ρ i (.od [])) := rfl
def dputK (i : Nat) (ρ : List Sl) (d : PyData) (o : Option (List (Key × PyData))) (q : Option Key) : Option Res := match o, q with
  | some kvs, some q => if kvs.length < 10000000 then nxO (sS ρ i (.od (putD kvs q d))) else none
  | _, _ => none
theorem e_dput {i : Nat} {a b : RE} {ρ : List Sl} : sDPut i a b ρ = vE (a ρ) fun dk => vE (b ρ) fun d => dputK i ρ d (gD ρ i) (keyOf dk) := rfl
theorem dputK_s {i : Nat} {ρ : List Sl} {d : PyData} {kvs : List (Key × PyData)} {q : Key} (h : kvs.length < 10000000) : dputK i ρ d (some kvs) (some q) = nxO (sS ρ i (.od (putD kvs q d))) := if_pos h
theorem keyOf_s {l : List Nat} : keyOf (S l) = some (.inr ⟨l.toArray⟩) := rfl
theorem keyOf_i {n : Int} : keyOf (.int n) = some (.inl n) := rfl
theorem gD_z {d : List (Key × PyData)} {r : List Sl} : gD (.od d :: r) 0 = some d := rfl
theorem gD_s {x : Sl} {r : List Sl} {n : Nat} : gD (x :: r) (n + 1) = gD r n := rfl
def sortDK (o : Option (List (Key × PyData))) : Option RO := match o with
  | some kvs => match keysS kvs with
    | some ts => if ts.length < 64 then some (.ret (.list ((sortS (ts.map (·.1))).map S))) else none
    | none => none
  | none => none
theorem e_sortD {i : Nat} {ρ : List Sl} : rSortD i ρ = sortDK (gD ρ i) := rfl
def dgetK (o : Option (List (Key × PyData))) (q : Option Key) : Option RO := match o, q with
  | some kvs, some q => (Dl.getD kvs q).map .ret
  | _, _ => none
theorem e_dget {i : Nat} {a : RE} {ρ : List Sl} : rDGet i a ρ = vE (a ρ) fun dk => dgetK (gD ρ i) (keyOf dk) := rfl
theorem dgetK_s {kvs : List (Key × PyData)} {q : Key} : dgetK (some kvs) (some q) = (Dl.getD kvs q).map .ret := rfl
def dget2K (d : PyData) (o : Option (List (Key × PyData))) (q : Option Key) : Option RO := match o, q with
  | some kvs, some q => some (.ret ((Dl.getD kvs q).getD d))
  | _, _ => none
theorem e_dget2 {i : Nat} {a b : RE} {ρ : List Sl} : rDGet2 i a b ρ = vE (a ρ) fun dk => vE (b ρ) fun d => dget2K d (gD ρ i) (keyOf dk) := rfl
theorem dget2K_s {kvs : List (Key × PyData)} {q : Key} {d : PyData} : dget2K d (some kvs) (some q) = some (.ret ((Dl.getD kvs q).getD d)) := rfl
/-! operations -/
section
variable {m n : Int} {s t : List Nat} {xs ys : List PyData} {d d1 d2 : PyData}
theorem add_i : fAdd (.int m) (.int n) = some (.int (m + n)) := rfl
theorem add_s (h : s.length + t.length ≤ 100000) : fAdd (S s) (S t) = some (S (s ++ t)) := if_pos h
theorem add_l (h : xs.length + ys.length ≤ 10000000) : fAdd (.list xs) (.list ys) = some (.list (xs ++ ys)) := if_pos h
theorem add_t (h : xs.length + ys.length ≤ 100000) : fAdd (.tuple xs) (.tuple ys) = some (.tuple (xs ++ ys)) := if_pos h
theorem sub_i : fSub (.int m) (.int n) = some (.int (m - n)) := rfl
theorem mul_i1 (h : -10000000000 ≤ m ∧ m ≤ 10000000000) : fMul (.int m) (.int n) = some (.int (m * n)) := if_pos (by
  unfold mulB
  rw [Bool.or_eq_true, Bool.or_eq_true, Bool.and_eq_true]
  exact .inl (.inl ⟨decide_eq_true (by omega), decide_eq_true (by omega)⟩))
theorem mul_i2 (h : -10000000000 ≤ n ∧ n ≤ 10000000000) : fMul (.int m) (.int n) = some (.int (m * n)) := if_pos (by
  unfold mulB
  rw [Bool.or_eq_true, Bool.or_eq_true, Bool.and_eq_true, Bool.and_eq_true]
  exact .inl (.inr ⟨decide_eq_true (by omega), decide_eq_true (by omega)⟩))
theorem mul_s (h : 0 ≤ n ∧ n ≤ 100000 ∧ s.length * n.toNat ≤ 100000) : fMul (S s) (.int n) = some (S (List.replicate n.toNat s).flatten) := if_pos h
theorem mul_l (h : 0 ≤ n ∧ n ≤ 100000 ∧ xs.length * n.toNat ≤ 100000) : fMul (.list xs) (.int n) = some (.list (List.replicate n.toNat xs).flatten) := if_pos h
theorem mul_t (h : 2 ≤ n ∧ n ≤ 1000 ∧ xs.length ≤ 1000 ∧ xs.isEmpty = false) : fMul (.tuple xs) (.int n) = some (.tuple (List.replicate n.toNat xs).flatten) := if_pos h
theorem div_i (h : 0 < n ∧ n < 1073741824) : fDiv (.int m) (.int n) = some (.int (m / n)) := if_pos ⟨h.1, .inl h.2⟩
theorem mod_i (h : 0 < n) : fMod (.int m) (.int n) = some (.int (m % n)) := if_pos h
theorem shl_i (h : 0 ≤ n ∧ n ≤ 1000000 ∧ m.natAbs < 2 ^ 64) : fShl (.int m) (.int n) = some (.int (m * 2 ^ n.toNat)) := if_pos h
theorem lt_i : cLt (.int m) (.int n) = some (decide (m < n)) := rfl
theorem lt_s : cLt (S s) (S t) = some (decide (s < t)) := rfl
theorem le_i : cLe (.int m) (.int n) = some (decide (m ≤ n)) := rfl
theorem gt_i : cGt (.int m) (.int n) = some (decide (n < m)) := rfl
theorem ge_i : cGe (.int m) (.int n) = some (decide (n ≤ m)) := rfl
theorem eq_i : cEq (.int m) (.int n) = some (decide (m = n)) := rfl
theorem eq_s : cEq (S s) (S t) = some (decide (s = t)) := rfl
theorem ne_i : cNe (.int m) (.int n) = some (!decide (m = n)) := rfl
theorem ne_s : cNe (S s) (S t) = some (!decide (s = t)) := rfl
theorem is_n : cIs d .none = some (isNone d) := by cases d <;> rfl
theorem nis_n : cNis d .none = some (!isNone d) := by cases d <;> rfl
theorem is_b {a b : Bool} : cIs (.bool a) (.bool b) = some (decide (a = b)) := rfl
theorem nis_b {a b : Bool} : cNis (.bool a) (.bool b) = some (!decide (a = b)) := rfl
theorem in_ss {q : Nat} : cIn (S [q]) (S t) = some (decide (q ∈ t)) := rfl
theorem ni_ss {q : Nat} : cNi (S [q]) (S t) = some (!decide (q ∈ t)) := rfl
theorem in_st {ls : List (List Nat)} : cIn (S s) (.tuple (ls.map S)) = some (decide (s ∈ ls)) := by
  show (match strsOf (ls.map S) with | some ls => some (decide (cs ⟨s.toArray⟩ ∈ ls)) | none => none) = _
  rw [strsOf_map]
  rfl
theorem ni_st {ls : List (List Nat)} : cNi (S s) (.tuple (ls.map S)) = some (!decide (s ∈ ls)) := by unfold cNi; rw [in_st]; rfl
theorem it_t : fIt (.tuple xs) (.int n) = atI xs n := rfl
theorem it_l : fIt (.list xs) (.int n) = atI xs n := rfl
theorem it_s (h : s.length ≤ 100000) : fIt (S s) (.int n) = (atI s n).map fun q => S [q] := if_pos h
theorem it_scr {ns : List Int} : fIt (scrD ns) (.int n) = (atI ns n).map .int := by
  show (match scrOf (ns.map fun n => (PyData.int n, PyData.none)) with | some ns => (atI ns n).map PyData.int | none => none) = _
  rw [scrOf_map]
theorem len_s (h : s.length ≤ 100000) : fLen [S s] = some (.int s.length) := if_pos h
theorem len_l : fLen [.list xs] = some (.int xs.length) := rfl
theorem len_t : fLen [.tuple xs] = some (.int xs.length) := rfl
theorem len_scr {ns : List Int} : fLen [scrD ns] = some (.int ns.length) := by
  show (match scrOf (ns.map fun n => (PyData.int n, PyData.none)) with | some ns => some (PyData.int ns.length) | none => none) = _
  rw [scrOf_map]
theorem tuple_l : fTuple [.list xs] = some (.tuple xs) := rfl
theorem tuple_t : fTuple [.tuple xs] = some (.tuple xs) := rfl
theorem list_l : fList [.list xs] = some (.list xs) := rfl
theorem list_t : fList [.tuple xs] = some (.list xs) := rfl
theorem all_m {α : Type} {l : List α} {f : α → Bool} : fAll [.list (l.map fun a => .bool (f a))] = some (.bool (l.all f)) := by
  show (match boolsOf _ with | some bs => some (PyData.bool (bs.all id)) | none => none) = _
  rw [boolsOf_mapf]
  show some (PyData.bool ((l.map f).all id)) = _
  rw [List.all_map]
  rfl
theorem any_m {α : Type} {l : List α} {f : α → Bool} : fAny [.list (l.map fun a => .bool (f a))] = some (.bool (l.any f)) := by
  show (match boolsOf _ with | some bs => some (PyData.bool (bs.any id)) | none => none) = _
  rw [boolsOf_mapf]
  show some (PyData.bool ((l.map f).any id)) = _
  rw [List.any_map]
  rfl
theorem sum_m {α : Type} {l : List α} {f : α → Int} : fSum [.list (l.map fun a => .int (f a))] = some (.int (l.map f).sum) := by
  show (match intsOf _ with | some bs => some (PyData.int bs.sum) | none => none) = _
  rw [intsOf_mapf]
theorem max_i : fMax [.int m, .int n] = some (.int (if n > m then n else m)) := rfl
theorem min_i : fMin [.int m, .int n] = some (.int (if n < m then n else m)) := rfl
theorem max_s {x : List Nat} {r : List (List Nat)} : fMax [.list ((x :: r).map S)] = some (S (bestS gtB x r)) := by
  show (match strsOf ((x :: r).map S) with | some (x :: r) => some (S (bestS gtB x r)) | _ => none) = _
  rw [strsOf_map]
theorem min_s {x : List Nat} {r : List (List Nat)} : fMin [.list ((x :: r).map S)] = some (S (bestS ltB x r)) := by
  show (match strsOf ((x :: r).map S) with | some (x :: r) => some (S (bestS ltB x r)) | _ => none) = _
  rw [strsOf_map]
theorem abs_i : fAbs [.int m] = some (.int (if m < 0 then -m else m)) := rfl
theorem str_i (h : m = 0 ∨ m = 1) : fStr [.int m] = some (S [48 + m.toNat]) := if_pos h
theorem int_b {b : Bool} : fInt [.bool b] = some (.int (if b = true then 1 else 0)) := rfl
theorem int_s {q : Nat} (h : q = 48 ∨ q = 49) : fInt [S [q]] = some (.int ((q : Int) - 48)) := if_pos h
theorem sl_s' {lo hi : Option Int} (h : s.length ≤ 100000) : slF (S s) lo hi = some (S (cut s lo hi)) := if_pos h
theorem sl_t' {lo hi : Option Int} : slF (.tuple xs) lo hi = some (.tuple (cut xs lo hi)) := rfl
theorem sl_l' {lo hi : Option Int} : slF (.list xs) lo hi = some (.list (cut xs lo hi)) := rfl
theorem tru_s (h : s.length ≤ 100000) : truD (S s) = some (!s.isEmpty) := by
  have h2 : (⟨s.toArray⟩ : Str).length ≤ sizeLine := by show s.toArray.size ≤ _; rw [List.size_toArray]; exact Evl.sz_of h
  show (if _ then _ else _) = _
  rw [if_pos h2]
  cases s with
  | nil => rfl
  | cons a r => 
    show some ((((a :: r).toArray.size : Nat) : Int) != 0) = _
    rw [List.size_toArray, List.length_cons]
    have : ((((r.length + 1 : Nat)) : Int) != 0) = true := by
      rw [bne_iff_ne]
      omega
    rw [this]
    rfl
theorem tru_t : truD (.tuple xs) = some (!xs.isEmpty) := rfl
theorem tru_l : truD (.list xs) = some (!xs.isEmpty) := rfl
theorem tru_b {b : Bool} : truD (.bool b) = some b := rfl
theorem tru_i : truD (.int m) = some (m != 0) := rfl
theorem tru_n : truD .none = some false := rfl
theorem joinF_s {a : List Nat} {ls : List (List Nat)} (h : (ls.map List.length).sum + ls.length * a.length ≤ 16777216) : joinF a (ls.map S) = some (S (TL.joinL a ls)) := by
  unfold joinF
  rw [strsOf_map]
  exact if_pos h
theorem join_s {a : List Nat} {ls : List (List Nat)} (h : (ls.map List.length).sum + ls.length * a.length ≤ 16777216) : fJoin (S a) (.list (ls.map S)) = some (S (TL.joinL a ls)) := joinF_s h
theorem join_t {a : List Nat} {ls : List (List Nat)} (h : (ls.map List.length).sum + ls.length * a.length ≤ 16777216) : fJoin (S a) (.tuple (ls.map S)) = some (S (TL.joinL a ls)) := joinF_s h
theorem starts_s : fStarts (S s) (S t) = some (.bool (decide (s.take t.length = t))) := rfl
end
theorem at0 {α : Type} {x : α} {r : List α} : atI (x :: r) 0 = some x := atD_of (j := 0) rfl rfl
theorem at1 {α : Type} {x y : α} {r : List α} : atI (x :: y :: r) 1 = some y := atD_of (j := 1) rfl rfl
theorem at2 {α : Type} {x y z : α} {r : List α} : atI (x :: y :: z :: r) 2 = some z := atD_of (j := 2) rfl rfl
theorem at0m {α β : Type} {f : α → β} {x : α} {r : List α} : atI ((x :: r).map f) 0 = some (f x) := atD_of (j := 0) rfl rfl
theorem not_t : (!true) = false := rfl
theorem not_f : (!false) = true := rfl
theorem ie_c {α : Type} {x : α} {r : List α} : (x :: r).isEmpty = false := rfl
theorem ie_n {α : Type} : ([] : List α).isEmpty = true := rfl
theorem ie_m {α β : Type} {f : α → β} {l : List α} : (l.map f).isEmpty = l.isEmpty := by cases l <;> rfl
theorem is_tuple_n : isB "tuple" .none = false := by rfl
theorem is_tuple_b {b : Bool} : isB "tuple" (.bool b) = false := by rfl
theorem is_tuple_i {m : Int} : isB "tuple" (.int m) = false := by rfl
theorem is_tuple_s {s : List Nat} : isB "tuple" (S s) = false := by rfl
theorem is_tuple_l {xs : List PyData} : isB "tuple" (.list xs) = false := by rfl
theorem is_tuple_t {xs : List PyData} : isB "tuple" (.tuple xs) = true := by rfl
theorem is_bool_n : isB "bool" .none = false := by rfl
theorem is_bool_b {b : Bool} : isB "bool" (.bool b) = true := by rfl
theorem is_bool_i {m : Int} : isB "bool" (.int m) = false := by rfl
theorem is_bool_s {s : List Nat} : isB "bool" (S s) = false := by rfl
theorem is_bool_l {xs : List PyData} : isB "bool" (.list xs) = false := by rfl
theorem is_bool_t {xs : List PyData} : isB "bool" (.tuple xs) = false := by rfl
theorem is_int_n : isB "int" .none = false := by rfl
theorem is_int_b {b : Bool} : isB "int" (.bool b) = true := by rfl
theorem is_int_i {m : Int} : isB "int" (.int m) = true := by rfl
theorem is_int_s {s : List Nat} : isB "int" (S s) = false := by rfl
theorem is_int_l {xs : List PyData} : isB "int" (.list xs) = false := by rfl
theorem is_int_t {xs : List PyData} : isB "int" (.tuple xs) = false := by rfl
theorem is_str_n : isB "str" .none = false := by rfl
theorem is_str_b {b : Bool} : isB "str" (.bool b) = false := by rfl
theorem is_str_i {m : Int} : isB "str" (.int m) = false := by rfl
theorem is_str_s {s : List Nat} : isB "str" (S s) = true := by rfl
theorem is_str_l {xs : List PyData} : isB "str" (.list xs) = false := by rfl
theorem is_str_t {xs : List PyData} : isB "str" (.tuple xs) = false := by rfl
theorem is_list_n : isB "list" .none = false := by rfl
theorem is_list_b {b : Bool} : isB "list" (.bool b) = false := by rfl
theorem is_list_i {m : Int} : isB "list" (.int m) = false := by rfl
theorem is_list_s {s : List Nat} : isB "list" (S s) = false := by rfl
theorem is_list_l {xs : List PyData} : isB "list" (.list xs) = true := by rfl
theorem is_list_t {xs : List PyData} : isB "list" (.tuple xs) = false := by rfl
theorem isNone_n : isNone .none = true := rfl
theorem isNone_s {s : List Nat} : isNone (S s) = false := rfl
theorem isNone_i {m : Int} : isNone (.int m) = false := rfl
theorem isNone_b {b : Bool} : isNone (.bool b) = false := rfl
theorem isNone_t {xs : List PyData} : isNone (.tuple xs) = false := rfl
theorem isNone_l {xs : List PyData} : isNone (.list xs) = false := rfl
/-! loops -/
theorem for_run {f : PyData → List Sl → Option Res} (I : Nat → List Sl → Prop) : ∀ {ds : List PyData} {ρ : List Sl}, I 0 ρ → (∀ (i : Nat) d ρ, ds[i]? = some d → I i ρ → ∃ ρ', (f d ρ = some (.nx ρ') ∨ f d ρ = some (.ct ρ')) ∧ I (i + 1) ρ') → ∃ ρ', forL f ds ρ = some (.nx ρ') ∧ I ds.length ρ'
  | [], ρ, h0, _ => ⟨ρ, rfl, h0⟩
  | d :: r, ρ, h0, hs => by
    obtain ⟨ρ1, h1, h2⟩ := hs 0 d ρ rfl h0
    obtain ⟨ρ', h3, h4⟩ := for_run (fun i => I (i + 1)) (ds := r) (ρ := ρ1) h2 (fun i d' ρ2 hd hi => hs (i + 1) d' ρ2 hd hi)
    refine ⟨ρ', ?_, h4⟩
    unfold forL
    rcases h1 with h1 | h1 <;> rw [h1] <;> exact h3
/-- the slots of each turn are known -/
theorem for_eq {f : PyData → List Sl → Option Res} (g : Nat → List Sl) {ds : List PyData} {ρ : List Sl} (h0 : ρ = g 0) (hs : ∀ (i : Nat) d, ds[i]? = some d → f d (g i) = some (.nx (g (i + 1)))) : forL f ds ρ = some (.nx (g ds.length)) := by
  obtain ⟨ρ', h1, h2⟩ := for_run (fun i ρ => ρ = g i) (ds := ds) (ρ := ρ) h0 (fun i d ρ hd hi => ⟨g (i + 1), .inl (by rw [hi]; exact hs i d hd), rfl⟩)
  rw [h1, h2]
/-- over a range -/
theorem for_rng {f : PyData → List Sl → Option Res} (g : Nat → List Sl) {lo : Int} {n : Nat} {ρ : List Sl} (h0 : ρ = g 0) (hs : ∀ i, i < n → f (.int (lo + (i : Nat))) (g i) = some (.nx (g (i + 1)))) : forL f (rangeD lo n) ρ = some (.nx (g n)) := by
  have := for_eq (f := f) g (ds := rangeD lo n) h0 (fun i d hd => by obtain ⟨h1, rfl⟩ := rangeD_get hd; exact hs i h1)
  rwa [rangeD_len] at this
theorem onPat_s {p : Pat} {s : RS} {d : PyData} {ρ ρ1 : List Sl} (h : ps p d ρ = some ρ1) : onPat p s d ρ = s ρ1 := by unfold onPat; rw [h]
def onK (s : RS) (o : Option (List Sl)) : Option Res := match o with
  | some ρ1 => s ρ1
  | none => none
theorem e_on {p : Pat} {s : RS} {d : PyData} {ρ : List Sl} : onPat p s d ρ = onK s (ps p d ρ) := rfl
theorem onK_s {s : RS} {ρ : List Sl} : onK s (some ρ) = s ρ := rfl
theorem whl_run {t : RT} {s : RS} (I : Nat → List Sl → Prop) (hs : ∀ m ρ, I m ρ → t ρ = some false ∨ (t ρ = some true ∧ ∃ ρ' m', (s ρ = some (.nx ρ') ∨ s ρ = some (.ct ρ')) ∧ m' < m ∧ I m' ρ')) : ∀ n m ρ, I m ρ → m < n → ∃ ρ' m', whlL t s n ρ = some (.nx ρ') ∧ I m' ρ' ∧ t ρ' = some false
  | 0, m, ρ, _, h => absurd h (Nat.not_lt_zero _)
  | n + 1, m, ρ, hi, h => by
    rcases hs m ρ hi with e | ⟨e, ρ', m', h1, h2, h3⟩
    · exact ⟨ρ, m, by unfold whlL; rw [e], hi, e⟩
    · obtain ⟨ρ2, m2, g1, g2, g3⟩ := whl_run I hs n m' ρ' h3 (by omega)
      refine ⟨ρ2, m2, ?_, g2, g3⟩
      unfold whlL
      rw [e]
      rcases h1 with h1 | h1 <;> rw [h1] <;> exact g1
theorem e_whl {n : Nat} {t : RT} {s : RS} {ρ : List Sl} : sWhl n t s ρ = whlL t s n ρ := rfl
/-- turns that go on, then one that leaves -/
theorem for_until {f : PyData → List Sl → Option Res} (I : Nat → List Sl → Prop) {x : PyData} : ∀ {ds : List PyData} {ρ : List Sl} (j : Nat) (e : PyData), ds[j]? = some e → I 0 ρ → (∀ (i : Nat) d ρ, i < j → ds[i]? = some d → I i ρ → ∃ ρ', f d ρ = some (.nx ρ') ∧ I (i + 1) ρ') → (∀ ρ, I j ρ → ∃ ρ', f e ρ = some (.rt x ρ')) → ∃ ρ', forL f ds ρ = some (.rt x ρ')
  | [], ρ, j, e, hj, _, _, _ => by simp at hj
  | d :: r, ρ, 0, e, hj, h0, _, hl => by
    cases hj
    obtain ⟨ρ', h⟩ := hl ρ h0
    exact ⟨ρ', by unfold forL; rw [h]⟩
  | d :: r, ρ, j + 1, e, hj, h0, hs, hl => by
    obtain ⟨ρ1, h1, h2⟩ := hs 0 d ρ (Nat.succ_pos _) rfl h0
    obtain ⟨ρ', h⟩ := for_until (fun i => I (i + 1)) (ds := r) (ρ := ρ1) j e hj h2 (fun i d' ρ2 hi hd hI => hs (i + 1) d' ρ2 (Nat.succ_lt_succ hi) hd hI) hl
    exact ⟨ρ', by unfold forL; rw [h1]; exact h⟩
theorem enum_at {α : Type} {enc : α → PyData} {xs : List α} {j : Nat} {a : α} (h : xs[j]? = some a) : (enumD (xs.map enc))[j]? = some (.tuple [.int (j : Nat), enc a]) := by
  unfold enumD
  have hl := (List.getElem?_eq_some_iff.mp h).1
  rw [List.getElem?_zipWith, List.getElem?_map, h, List.getElem?_range (by rw [List.length_map]; exact hl)]
  rfl
/-! comprehensions -/
theorem lcL_map {α : Type} {f : PyData → Option (Option PyData)} {enc : α → PyData} {g : α → PyData} : ∀ {xs : List α}, (∀ a ∈ xs, f (enc a) = some (some (g a))) → lcL f (xs.map enc) = some (xs.map g)
  | [], _ => rfl
  | x :: r, h => by
    rw [List.map_cons, List.map_cons]
    unfold lcL
    rw [h x List.mem_cons_self, lcL_map fun a ha => h a (List.mem_cons_of_mem _ ha)]
    rfl
theorem lcL_filter {α : Type} {f : PyData → Option (Option PyData)} {enc : α → PyData} {g : α → PyData} {t : α → Bool} : ∀ {xs : List α}, (∀ a ∈ xs, f (enc a) = some (if t a = true then some (g a) else none)) → lcL f (xs.map enc) = some ((xs.filter t).map g)
  | [], _ => rfl
  | x :: r, h => by
    rw [List.map_cons, List.filter_cons]
    unfold lcL
    rw [h x List.mem_cons_self, lcL_filter fun a ha => h a (List.mem_cons_of_mem _ ha)]
    cases t x <;> rfl
theorem lcL_fm {α : Type} {f : PyData → Option (Option PyData)} {enc : α → PyData} {g : α → Option PyData} : ∀ {xs : List α}, (∀ a ∈ xs, f (enc a) = some (g a)) → lcL f (xs.map enc) = some (xs.filterMap g)
  | [], _ => rfl
  | x :: r, h => by
    rw [List.map_cons, List.filterMap_cons]
    unfold lcL
    rw [h x List.mem_cons_self, lcL_fm fun a ha => h a (List.mem_cons_of_mem _ ha)]
    cases g x <;> rfl
def lcK (own : List Nat) (p : Pat) (o : Option RL) (ts : RT) (el : RE) (ρ : List Sl) : Option (List PyData) := match o with
  | some (.vs ds) => if ds.length ≤ 10000000 then match wipS own ρ with
      | some ρw => lcL (turn p ts el ρw) ds
      | none => none
    else none
  | _ => none
def lcK2 (p : Pat) (ts : RT) (el : RE) (ds : List PyData) (o : Option (List Sl)) : Option (List PyData) := match o with
  | some ρw => lcL (turn p ts el ρw) ds
  | none => none
theorem lcK_s {own : List Nat} {p : Pat} {ds : List PyData} {ts : RT} {el : RE} {ρ : List Sl} (h : ds.length ≤ 10000000) : lcK own p (some (.vs ds)) ts el ρ = lcK2 p ts el ds (wipS own ρ) := if_pos h
theorem lcK2_s {p : Pat} {ts : RT} {el : RE} {ds : List PyData} {ρw : List Sl} : lcK2 p ts el ds (some ρw) = lcL (turn p ts el ρw) ds := rfl
theorem e_lc {own : List Nat} {p : Pat} {it : RA} {ts : RT} {el : RE} {ρ : List Sl} : rLc own p it ts el ρ = lcK own p (it ρ) ts el ρ := rfl
def wipK (v : Nat) (o : Option (List Sl)) : Option (List Sl) := match o with
  | some ρ1 => noS ρ1 v
  | none => none
theorem wip_n {ρ : List Sl} : wipS [] ρ = some ρ := rfl
theorem wip_c {v : Nat} {vs : List Nat} {ρ : List Sl} : wipS (v :: vs) ρ = wipK v (wipS vs ρ) := rfl
theorem wipK_s {v : Nat} {ρ : List Sl} : wipK v (some ρ) = noS ρ v := rfl
theorem noS_zn {r : List Sl} : noS (.no :: r) 0 = some (.no :: r) := rfl
theorem noS_zv {d : PyData} {r : List Sl} : noS (.v d :: r) 0 = some (.no :: r) := rfl
theorem noS_s {x : Sl} {r : List Sl} {n : Nat} : noS (x :: r) (n + 1) = (noS r n).map (x :: ·) := rfl
/-- a slot that may be forgotten -/
def vn : Sl → Bool
  | .no => true
  | .v _ => true
  | _ => false
theorem vn_v {d : PyData} : vn (.v d) = true := rfl
theorem vn_no : vn .no = true := rfl
theorem noS_vn {s : Sl} {r : List Sl} (h : vn s = true) : noS (s :: r) 0 = some (.no :: r) := by
  cases s with
  | no => rfl
  | v d => rfl
  | _ => cases h
theorem zipIdx_enum {α : Type} {enc : α → PyData} (xs : List α) : enumD (xs.map enc) = xs.zipIdx.map fun p => .tuple [.int (p.2 : Nat), enc p.1] := by
  refine List.ext_getElem? fun i => ?_
  rw [List.getElem?_map, List.getElem?_zipIdx]
  cases h : xs[i]? with
  | none =>
    have hl := List.getElem?_eq_none_iff.mp h
    rw [List.getElem?_eq_none (by rw [enumD_len, List.length_map]; exact hl)]
    rfl
  | some a => rw [enum_at h, Nat.zero_add]; rfl
def turnK (ts : RT) (el : RE) (o : Option (List Sl)) : Option (Option PyData) := match o with
  | some ρ1 => match ts ρ1 with
    | some true => vE (el ρ1) fun y => some (some y)
    | some false => some none
    | none => none
  | none => none
def turnK2 (el : RE) (ρ1 : List Sl) (o : Option Bool) : Option (Option PyData) := match o with
  | some true => vE (el ρ1) fun y => some (some y)
  | some false => some none
  | none => none
theorem e_turn {p : Pat} {ts : RT} {el : RE} {ρ : List Sl} {d : PyData} : turn p ts el ρ d = turnK ts el (ps p d ρ) := rfl
theorem turnK_s {ts : RT} {el : RE} {ρ : List Sl} : turnK ts el (some ρ) = turnK2 el ρ (ts ρ) := rfl
theorem turnK2_t {el : RE} {ρ : List Sl} : turnK2 el ρ (some true) = vE (el ρ) fun y => some (some y) := rfl
theorem turnK2_f {el : RE} {ρ : List Sl} : turnK2 el ρ (some false) = some none := rfl
theorem turnK2_b {el : RE} {ρ : List Sl} {b : Bool} {y : PyData} (h : b = true → el ρ = some (.ret y)) : turnK2 el ρ (some b) = some (if b = true then some y else none) := by
  cases b with
  | true => show vE (el ρ) _ = _; rw [h rfl]; rfl
  | false => rfl
theorem e_yes {ρ : List Sl} : tYes ρ = some true := rfl
theorem map_some' {α β : Type} {f : α → β} {a : α} : (some a).map f = some (f a) := rfl
theorem rangeD_map (lo : Int) (n : Nat) : rangeD lo n = (List.range n).map fun i => .int (lo + (i : Nat)) := rfl
theorem rangeD_length {lo : Int} {n : Nat} : (rangeD lo n).length = n := rangeD_len
theorem zipD_map {α β : Type} {f : α → PyData} {g : β → PyData} : ∀ (xs : List α) (ys : List β), zipD (xs.map f) (ys.map g) = (xs.zip ys).map fun p => .tuple [f p.1, g p.2]
  | [], _ => by unfold zipD; simp
  | _ :: _, [] => by unfold zipD; simp
  | x :: xs, y :: ys => by
    show _ :: zipD (xs.map f) (ys.map g) = _
    rw [zipD_map xs ys]
    rfl
theorem zipD_same {α : Type} {f g : α → PyData} : ∀ (xs : List α), zipD (xs.map f) (xs.map g) = xs.map fun a => .tuple [f a, g a]
  | [] => rfl
  | x :: xs => by
    show _ :: zipD (xs.map f) (xs.map g) = _
    rw [zipD_same xs]
    rfl
/-! what RlS brings -/
def parMK (js : List Nat) (o : Option (List Sl)) (ρ : List Sl) : Option Res := match o with
  | some ss => nxO (ssL js ss ρ)
  | none => none
theorem e_parM {js : List Nat} {r : RM} {ρ : List Sl} : sParM js r ρ = parMK js (r ρ) ρ := rfl
theorem parMK_s {js : List Nat} {ss ρ : List Sl} : parMK js (some ss) ρ = nxO (ssL js ss ρ) := rfl
def ssK (js : List Nat) (ss : List Sl) (o : Option (List Sl)) : Option (List Sl) := match o with
  | some ρ1 => ssL js ss ρ1
  | none => none
theorem ssL_z {ρ : List Sl} : ssL [] [] ρ = some ρ := rfl
theorem ssL_c {j : Nat} {js : List Nat} {s : Sl} {ss ρ : List Sl} : ssL (j :: js) (s :: ss) ρ = ssK js ss (sS ρ j s) := rfl
theorem ssK_s {js : List Nat} {ss ρ : List Sl} : ssK js ss (some ρ) = ssL js ss ρ := rfl
theorem e_mNil {ρ : List Sl} : mNil ρ = some [] := rfl
theorem e_mD {a : RE} {r : RM} {ρ : List Sl} : mD a r ρ = vE (a ρ) fun d => (r ρ).map (Sl.v d :: ·) := rfl
def mNK (o : Option (List PyData)) (r : Option (List Sl)) : Option (List Sl) := match o with
  | some ds => r.map (Sl.ol ds :: ·)
  | none => none
theorem e_mN {n : RN} {r : RM} {ρ : List Sl} : mN n r ρ = mNK (n ρ) (r ρ) := rfl
theorem mNK_s {ds : List PyData} {r : Option (List Sl)} : mNK (some ds) r = r.map (Sl.ol ds :: ·) := rfl
theorem e_nAdd {a b : RE} {ρ : List Sl} : nAdd a b ρ = vE (a ρ) fun d1 => vE (b ρ) fun d2 => addN d1 d2 := rfl
theorem addN_l {x y : List PyData} (h : x.length + y.length ≤ 10000000) : addN (.list x) (.list y) = some (x ++ y) := if_pos h
theorem e_nRep {a b : RE} {ρ : List Sl} : nRep a b ρ = vE (a ρ) fun d1 => vE (b ρ) fun d2 => repN d1 d2 := rfl
theorem repN_l {x : List PyData} {n : Int} (h : 0 ≤ n ∧ n ≤ 100000 ∧ x.length * n.toNat ≤ 100000) : repN (.list x) (.int n) = some (List.replicate n.toNat x).flatten := if_pos h
theorem e_nList {a : RE} {ρ : List Sl} : nList a ρ = vE (a ρ) listN := rfl
theorem listN_l {x : List PyData} : listN (.list x) = some x := rfl
theorem listN_t {x : List PyData} : listN (.tuple x) = some x := rfl
def lputK (i : Nat) (ρ : List Sl) (d : PyData) (o : Option (List PyData)) (dn : PyData) : Option Res := match o, dn with
  | some ds, .int n => if 0 ≤ n ∧ n < ds.length then nxO (sS ρ i (.ol (ds.set n.toNat d))) else none
  | _, _ => none
theorem e_lput {i : Nat} {a b : RE} {ρ : List Sl} : sLPut i a b ρ = vE (b ρ) fun d => vE (a ρ) fun dn => lputK i ρ d (gO ρ i) dn := rfl
theorem lputK_s {i : Nat} {ρ : List Sl} {d : PyData} {ds : List PyData} {n : Int} (h : 0 ≤ n ∧ n < ds.length) : lputK i ρ d (some ds) (.int n) = nxO (sS ρ i (.ol (ds.set n.toNat d))) := if_pos h
theorem smallR_is {m : Int} (h : -1000000 ≤ m ∧ m ≤ 1000000) : smallR m = true := by
  unfold smallR
  rw [decide_eq_true h.1, decide_eq_true h.2]
  rfl
theorem e_lr1 {a : RE} {ρ : List Sl} : rLR1 a ρ = vE (a ρ) fun d => (lr1F d).map .ret := rfl
theorem lr1_s {n : Int} (h : -1000000 ≤ n ∧ n ≤ 1000000) : lr1F (.int n) = some (.list (rangeD 0 n.toNat)) := if_pos (smallR_is h)
theorem e_lr2 {a b : RE} {ρ : List Sl} : rLR2 a b ρ = vE (a ρ) fun d => vE (b ρ) fun d2 => (lr2F d d2).map .ret := rfl
theorem lr2_s {m n : Int} (h : -1000000 ≤ m ∧ m ≤ 1000000) (h2 : -1000000 ≤ n ∧ n ≤ 1000000) : lr2F (.int m) (.int n) = some (.list (rangeD m (n - m).toNat)) := if_pos (by rw [smallR_is h, smallR_is h2]; rfl)
theorem rangeD_cons (lo : Int) (n : Nat) : rangeD lo (n + 1) = .int lo :: rangeD (lo + 1) n := by
  unfold rangeD
  rw [List.range_succ_eq_map, List.map_cons, List.map_map]
  congr 1
  · rw [show lo + ((0 : Nat) : Int) = lo by omega]
  · refine List.map_congr_left fun i _ => ?_
    show PyData.int (lo + ((i + 1 : Nat) : Int)) = PyData.int (lo + 1 + (i : Int))
    rw [show lo + ((i + 1 : Nat) : Int) = lo + 1 + (i : Int) by omega]
theorem enumD_map {α : Type} {enc : α → PyData} (xs : List α) : enumD (xs.map enc) = xs.zipIdx.map fun p => .tuple [.int (p.2 : Nat), enc p.1] := zipIdx_enum xs
theorem for_c {f : PyData → List Sl → Option Res} {d : PyData} {r : List PyData} {ρ ρ' : List Sl} (h : f d ρ = some (.nx ρ')) : forL f (d :: r) ρ = forL f r ρ' := by
  conv => lhs; unfold forL
  rw [h]
theorem for_rt {f : PyData → List Sl → Option Res} {d x : PyData} {r : List PyData} {ρ ρ' : List Sl} (h : f d ρ = some (.rt x ρ')) : forL f (d :: r) ρ = some (.rt x ρ') := by
  conv => lhs; unfold forL
  rw [h]
theorem whl_t {t : RT} {s : RS} {n : Nat} {ρ ρ' : List Sl} (ht : t ρ = some true) (h : s ρ = some (.nx ρ')) : whlL t s (n + 1) ρ = whlL t s n ρ' := by
  conv => lhs; unfold whlL
  rw [ht, h]
theorem whl_rt {t : RT} {s : RS} {n : Nat} {ρ ρ' : List Sl} {x : PyData} (ht : t ρ = some true) (h : s ρ = some (.rt x ρ')) : whlL t s (n + 1) ρ = some (.rt x ρ') := by
  conv => lhs; unfold whlL
  rw [ht, h]
theorem whl_f {t : RT} {s : RS} {n : Nat} {ρ : List Sl} (ht : t ρ = some false) : whlL t s (n + 1) ρ = some (.nx ρ) := by
  conv => lhs; unfold whlL
  rw [ht]
/-! loops whose slots are known -/
theorem for_same {f : PyData → List Sl → Option Res} {ρ : List Sl} : ∀ {ds : List PyData}, (∀ d ∈ ds, f d ρ = some (.nx ρ)) → forL f ds ρ = some (.nx ρ)
  | [], _ => rfl
  | d :: r, h => by
    unfold forL
    rw [h d List.mem_cons_self]
    exact for_same fun e he => h e (List.mem_cons_of_mem _ he)
theorem for_sameM {α : Type} {enc : α → PyData} {f : PyData → List Sl → Option Res} {ρ : List Sl} {xs : List α} (h : ∀ a ∈ xs, f (enc a) ρ = some (.nx ρ)) : forL f (xs.map enc) ρ = some (.nx ρ) :=
  for_same fun d hd => by obtain ⟨a, ha, rfl⟩ := List.mem_map.mp hd; exact h a ha
theorem for_sameR {f : PyData → List Sl → Option Res} {lo : Int} {n : Nat} {ρ : List Sl} (h : ∀ i : Nat, i < n → f (.int (lo + (i : Nat))) ρ = some (.nx ρ)) : forL f (rangeD lo n) ρ = some (.nx ρ) :=
  for_rng (fun _ => ρ) rfl h
/-- something grows from turn to turn -/
theorem for_fold {α β : Type} {enc : α → PyData} {f : PyData → List Sl → Option Res} (g : β → List Sl) (step : β → α → β) : ∀ {xs : List α} {b : β}, (∀ (i : Nat) a, xs[i]? = some a → f (enc a) (g ((xs.take i).foldl step b)) = some (.nx (g (step ((xs.take i).foldl step b) a)))) → forL f (xs.map enc) (g b) = some (.nx (g (xs.foldl step b)))
  | [], _, _ => rfl
  | x :: r, b, h => by
    rw [List.map_cons]
    unfold forL
    have h0 := h 0 x rfl
    rw [List.take_zero, List.foldl_nil] at h0
    rw [h0]
    exact for_fold g step fun i a ha => h (i + 1) a ha
/-- a list grows by one item a turn -/
theorem for_grow {α : Type} {enc : α → PyData} {f : PyData → List Sl → Option Res} (g : List PyData → List Sl) (y : α → PyData) {xs : List α} {acc : List PyData} (h : ∀ (i : Nat) a, xs[i]? = some a → f (enc a) (g (acc ++ (xs.take i).map y)) = some (.nx (g (acc ++ (xs.take i).map y ++ [y a])))) : forL f (xs.map enc) (g acc) = some (.nx (g (acc ++ xs.map y))) := by
  have e : ∀ (l : List α) (b : List PyData), l.foldl (fun b a => b ++ [y a]) b = b ++ l.map y := by
    intro l
    induction l with
    | nil => intro b; rw [List.foldl_nil, List.map_nil, List.append_nil]
    | cons a l ih => intro b; rw [List.foldl_cons, ih, List.map_cons, List.append_assoc]; rfl
  have := for_fold (enc := enc) (f := f) g (fun b a => b ++ [y a]) (xs := xs) (b := acc) (fun i a ha => by rw [e]; exact h i a ha)
  rwa [e] at this
end Rl

namespace K
open PySem PySem.Spec PyProof.Rows L2 Dl Rl
/-! ### what the helpers of the laws tell, plainly -/
def cellF (ns : List Int) (k : Int) : Int := ns.getD k.toNat 0
theorem cell_ix {ns : List Int} {k : Int} (h0 : 0 ≤ k) (h : k < ns.length) : atI ns k = some (cellF ns k) := by
  have e : k = ((k.toNat : Nat) : Int) := by omega
  have hl : k.toNat < ns.length := by omega
  unfold atI
  rw [e, Evl.ixN_nat hl]
  show ns[k.toNat]? = _
  unfold cellF
  rw [List.getD_eq_getElem?_getD, Int.toNat_natCast, List.getElem?_eq_getElem hl]
  rfl
def mixF (c p m : Int) : Int := (c * 48271 % p) * (c * 48271 % p + 7) % p % m
theorem mix_in {c p m : Int} (h : 0 < m) : 0 ≤ mixF c p m ∧ mixF c p m < m := ⟨Int.emod_nonneg _ (by omega), Int.emod_lt_of_pos _ h⟩
/-- the slot of a loop's name -/
def kS (s0 : Sl) (lo : Int) : Nat → Sl
  | 0 => s0
  | i + 1 => .v (.int (lo + (i : Nat)))
/-! ### tags and lots -/
abbrev Tag := List Nat
def plF (p : Int) : Nat → Int
  | 0 => p
  | i + 1 => plF p i / 2
def bitsF (p : Int) : Nat → Tag
  | 0 => []
  | i + 1 => (48 + (plF p i % 2).toNat) :: bitsF p i
def IsTag (n : Nat) (t : Tag) : Prop := t.length = n ∧ ∀ q ∈ t, q = 48 ∨ q = 49
theorem bits_tag (p : Int) : ∀ i, IsTag i (bitsF p i)
  | 0 => ⟨rfl, fun q h => by cases h⟩
  | i + 1 => by
    obtain ⟨h1, h2⟩ := bits_tag p i
    refine ⟨by show (bitsF p i).length + 1 = _; rw [h1], fun q h => ?_⟩
    rcases List.mem_cons.mp h with h | h
    · have := Int.emod_two_eq (plF p i)
      omega
    · exact h2 q h
theorem bits_len (p : Int) (i : Nat) : (bitsF p i).length = i := (bits_tag p i).1
def longF (c : Int) : Int := if decide (mixF c 9967 3 = 0) = true then 1 + mixF c 9973 10 else 3 + mixF c 9949 4
theorem long_in (c : Int) : 1 ≤ longF c ∧ longF c ≤ 10 := by
  have h1 := mix_in (c := c) (p := 9973) (m := 10) (by decide)
  have h2 := mix_in (c := c) (p := 9949) (m := 4) (by decide)
  unfold longF
  split <;> omega
def placeF (c n : Int) (i : Nat) : Int := if decide (mixF c 9941 3 = 0) = true then (mixF c 9931 (2 ^ n.toNat) / 8 * 8 + mixF (c + 37 * (0 + (i : Int))) 9923 8) % 2 ^ n.toNat else mixF (c + 37 * (0 + (i : Int))) 9907 (2 ^ n.toNat)
def addT (l : List Tag) (t : Tag) : List Tag := if t ∈ l then l else l ++ [t]
def rowsF (c n : Int) : Nat → List Tag
  | 0 => []
  | i + 1 => addT (rowsF c n i) (bitsF (placeF c n i) n.toNat)
def kvT (l : List Tag) : List (Key × PyData) := l.map fun t => (Sum.inr ⟨t.toArray⟩, .bool true)
theorem put_addT (l : List Tag) (t : Tag) : putD (kvT l) (Sum.inr ⟨t.toArray⟩) (.bool true) = kvT (addT l t) := by
  have inj : ∀ u : Tag, ((Sum.inr ⟨u.toArray⟩ : Key) = Sum.inr ⟨t.toArray⟩) ↔ u = t := fun u => ⟨fun h => by injection h with h; exact str_inj h, fun h => by rw [h]⟩
  have any : ((kvT l).any fun kv => decide (kv.1 = (Sum.inr ⟨t.toArray⟩ : Key))) = decide (t ∈ l) := by
    unfold kvT
    rw [List.any_map]
    by_cases h : t ∈ l
    · rw [decide_eq_true h]
      exact List.any_eq_true.mpr ⟨t, h, decide_eq_true rfl⟩
    · rw [decide_eq_false h]
      refine List.any_eq_false.mpr fun u hu z => h ?_
      have z := of_decide_eq_true z
      rw [← (inj u).mp z]
      exact hu
  unfold putD addT
  rw [any]
  by_cases h : t ∈ l
  · rw [if_pos (decide_eq_true h), if_pos h]
    unfold kvT
    rw [List.map_map]
    refine List.map_congr_left fun u _ => ?_
    show (if (Sum.inr ⟨u.toArray⟩ : Key) = Sum.inr ⟨t.toArray⟩ then _ else _) = _
    split <;> rfl
  · rw [if_neg (by rw [decide_eq_false h]; exact Bool.false_ne_true), if_neg h]
    unfold kvT
    rw [List.map_append]
    rfl
theorem rows_ok (c n : Int) : ∀ i, (rowsF c n i).Nodup ∧ (rowsF c n i).length ≤ i ∧ ∀ t ∈ rowsF c n i, IsTag n.toNat t
  | 0 => ⟨List.nodup_nil, Nat.le_refl _, fun t h => by cases h⟩
  | i + 1 => by
    obtain ⟨h1, h2, h3⟩ := rows_ok c n i
    unfold rowsF addT
    split
    · exact ⟨h1, by omega, h3⟩
    · rename_i hn
      refine ⟨List.nodup_append.mpr ⟨h1, by simp, fun a ha b hb e => ?_⟩, by rw [List.length_append]; simp; omega, fun t ht => ?_⟩
      · simp at hb
        subst hb
        exact hn (e ▸ ha)
      · rcases List.mem_append.mp ht with h | h
        · exact h3 t h
        · simp at h
          subst h
          exact bits_tag _ _
def lotF (c n m : Int) : List Tag := sortS (rowsF c n (mixF c 9929 (m + 1)).toNat)
/-- a lot: tags of one length, rising -/
structure IsLot (n : Nat) (l : List Tag) : Prop where
  tg : ∀ t ∈ l, IsTag n t
  up : l.Pairwise (· < ·)
theorem lot_ok (c n m : Int) (hm : 0 ≤ m) : IsLot n.toNat (lotF c n m) ∧ (lotF c n m).length ≤ m.toNat := by
  obtain ⟨h1, h2, h3⟩ := rows_ok c n (mixF c 9929 (m + 1)).toNat
  have hp := sortS_perm (rowsF c n (mixF c 9929 (m + 1)).toNat)
  have hs := sortS_pw (rowsF c n (mixF c 9929 (m + 1)).toNat)
  have hx := mix_in (c := c) (p := 9929) (m := m + 1) (by omega)
  have hn : (lotF c n m).Nodup := hp.nodup_iff.mpr h1
  refine ⟨⟨fun t ht => h3 t (hp.mem_iff.mp ht), ?_⟩, by show (sortS _).length ≤ _; rw [hp.length_eq]; omega⟩
  have := List.Pairwise.and hs hn
  refine this.imp fun {a b} h => ?_
  have q : a ≤ b := by
    have := h.1
    unfold leS at this
    rw [Bool.not_eq_true', decide_eq_false_iff_not] at this
    exact List.not_lt.mp this
  rcases List.le_iff_lt_or_eq.mp q with z | z
  · exact z
  · exact absurd z h.2
/-! ### what is heard -/
def amF (b : Tag) (ls : List Tag) : List Tag := ls.filter fun t => decide (t.take b.length = b)
theorem am_cut (b : Tag) (ls : List Tag) : (ls.filter fun a => decide (cut a none (some (b.length : Int)) = b)) = amF b ls := by
  unfold amF
  refine List.filter_congr fun t _ => ?_
  rw [cut_to t (by omega : (0 : Int) ≤ (b.length : Int)), Int.toNat_natCast]
theorem am_mem {b t : Tag} {ls : List Tag} (h : t ∈ amF b ls) : t ∈ ls ∧ t.take b.length = b := by
  obtain ⟨h1, h2⟩ := List.mem_filter.mp h
  exact ⟨h1, of_decide_eq_true h2⟩
theorem am_len (b : Tag) (ls : List Tag) : (amF b ls).length ≤ ls.length := List.length_filter_le _ _
def blurF (q : Nat) (r : List Nat) : Nat := if r.all (fun y => decide (y = q)) = true then q else 120
def soundF (b t : Tag) (r : List Tag) (i : Nat) : Nat := blurF (t.getD (b.length + i) 0) (r.map fun u => u.getD (b.length + i) 0)
def heardF (ls : List Tag) (b : Tag) : PyData := match amF b ls with
  | [] => .none
  | t :: r => S ((List.range (t.length - b.length)).map (soundF b t r))
theorem heard_nil {ls : List Tag} {b : Tag} (h : amF b ls = []) : heardF ls b = .none := by unfold heardF; rw [h]
theorem heard_cons {ls : List Tag} {b t : Tag} {r : List Tag} (h : amF b ls = t :: r) : heardF ls b = S ((List.range (t.length - b.length)).map (soundF b t r)) := by unfold heardF; rw [h]
theorem flat1 {α : Type} (f : α → Nat) (l : List α) : (l.map fun i => [f i]).flatten = l.map f := by
  induction l with
  | nil => rfl
  | cons x r ih => rw [List.map_cons, List.flatten_cons, ih]; rfl
theorem len1 {α : Type} (f : α → Nat) (l : List α) : ((l.map fun i => [f i]).map List.length).sum = l.length := by
  induction l with
  | nil => rfl
  | cons x r ih => rw [List.map_cons, List.map_cons, List.sum_cons, ih, List.length_cons]; simp; omega
theorem join1 {α : Type} (f : α → Nat) (l : List α) : TL.joinL [] (l.map fun i => [f i]) = l.map f := by rw [joinL_nil, flat1]
theorem jz1 {α : Type} (f : α → Nat) (l : List α) (h : l.length ≤ 1000) : ((l.map fun i => [f i]).map List.length).sum + (l.map fun i => [f i]).length * ([] : List Nat).length ≤ 16777216 := by
  rw [len1]
  simp
  omega
theorem at_S {t : Tag} {i : Int} (h0 : 0 ≤ i) (h : i < t.length) : atI t i = some (t.getD i.toNat 0) := by
  have hl : i.toNat < t.length := by omega
  refine atD_of (j := i.toNat) (by omega) ?_
  rw [List.getD_eq_getElem?_getD, List.getElem?_eq_getElem hl]
  rfl
def Asc (t : Tag) : Prop := ∀ q ∈ t, q < 128
theorem tag_asc {n : Nat} {t : Tag} (h : IsTag n t) : Asc t := fun q hq => by rcases h.2 q hq with e | e <;> omega
theorem asc_ok {t : Tag} (h : Asc t) : PyData.canLay0 (S t) = true := by
  show PyData.strOk ⟨t.toArray⟩ = true
  show t.toArray.all (fun q => decide (q < 0x110000)) = true
  rw [List.all_toArray]
  exact List.all_eq_true.mpr fun q hq => decide_eq_true (by have := h q hq; omega)
theorem sh_strs : ∀ l : List Tag, (∀ t ∈ l, Asc t) → PyData.canLayAll0 (l.map S) = true ∧ PyData.depthAll (l.map S) = 0
  | [], _ => ⟨rfl, rfl⟩
  | t :: r, h => by
    obtain ⟨h1, h2⟩ := sh_strs r fun u hu => h u (List.mem_cons_of_mem _ hu)
    refine ⟨?_, ?_⟩
    · show (PyData.canLay0 (S t) && PyData.canLayAll0 (r.map S)) = true
      rw [h1, asc_ok (h t List.mem_cons_self)]
      rfl
    · show max (PyData.depth (S t)) (PyData.depthAll (r.map S)) = 0
      rw [h2]
      rfl
theorem shaped_lst {l : List Tag} (h : ∀ t ∈ l, Asc t) : SeqAt.shaped (.list (l.map S)) = true := by
  obtain ⟨h1, h2⟩ := sh_strs l h
  show (PyData.canLayAll0 (l.map S) && decide (PyData.depthAll (l.map S) + 1 ≤ 64)) = true
  rw [h1, h2]
  rfl
theorem shaped_tup {l : List Tag} (h : ∀ t ∈ l, Asc t) : SeqAt.shaped (.tuple (l.map S)) = true := by
  obtain ⟨h1, h2⟩ := sh_strs l h
  show (PyData.canLayAll0 (l.map S) && decide (PyData.depthAll (l.map S) + 1 ≤ 64)) = true
  rw [h1, h2]
  rfl
def numF (t : Tag) : Int := t.foldl (fun (a : Int) (q : Nat) => 2 * a + ((q : Int) - 48)) 0
theorem pl_pow (p : Int) : ∀ i, plF p i = p / 2 ^ i
  | 0 => by show p = p / 2 ^ 0; rw [Int.pow_zero, Int.ediv_one]
  | i + 1 => by
    show plF p i / 2 = _
    rw [pl_pow p i, Int.pow_succ, Int.ediv_ediv_of_nonneg (Int.le_of_lt (Int.pow_pos (by decide)))]
theorem bits_down (p : Int) : ∀ n : Nat, ((List.range n).map fun i => 48 + (p / 2 ^ (n - 1 - i) % 2).toNat) = bitsF p n
  | 0 => rfl
  | n + 1 => by
    rw [List.range_succ_eq_map, List.map_cons, List.map_map]
    show _ = (48 + (plF p n % 2).toNat) :: bitsF p n
    rw [← bits_down p n, pl_pow]
    congr 1
    refine List.map_congr_left fun i hi => ?_
    show 48 + (p / 2 ^ (n + 1 - 1 - (i + 1)) % 2).toNat = _
    rw [show n + 1 - 1 - (i + 1) = n - 1 - i by omega]
/-- the count of ones tells the same as blurring -/
theorem ones_blur {b t : Tag} {r : List Tag} {i n : Nat} (ht : ∀ u ∈ t :: r, IsTag n u) (hi : b.length + i < n) :
    (if ((((t :: r).filter fun u => decide ([u.getD (b.length + i) 0] = [49])).length : Nat) : Int) = 0 then 48 else if ((((t :: r).filter fun u => decide ([u.getD (b.length + i) 0] = [49])).length : Nat) : Int) = (((t :: r).length : Nat) : Int) then 49 else 120) = soundF b t r i := by
  have sg : ∀ u ∈ t :: r, u.getD (b.length + i) 0 = 48 ∨ u.getD (b.length + i) 0 = 49 := fun u hu => by
    obtain ⟨h1, h2⟩ := ht u hu
    have hl : b.length + i < u.length := by omega
    rw [List.getD_eq_getElem?_getD, List.getElem?_eq_getElem hl]
    exact h2 _ (List.getElem_mem hl)
  unfold soundF blurF
  generalize b.length + i = k at sg ⊢
  have e0 : (((t :: r).filter fun u => decide ([u.getD k 0] = [49])).length = 0) ↔ ∀ u ∈ t :: r, u.getD k 0 = 48 := by
    rw [List.length_eq_zero_iff, List.filter_eq_nil_iff]
    refine ⟨fun h u hu => (sg u hu).resolve_right fun z => h u hu (by rw [z]; rfl), fun h u hu z => ?_⟩
    have z := of_decide_eq_true z
    rw [h u hu] at z
    cases z
  have e1 : (((t :: r).filter fun u => decide ([u.getD k 0] = [49])).length = (t :: r).length) ↔ ∀ u ∈ t :: r, u.getD k 0 = 49 := by
    rw [List.length_filter_eq_length_iff]
    refine ⟨fun h u hu => ?_, fun h u hu => by rw [h u hu]; rfl⟩
    have z := of_decide_eq_true (h u hu)
    injection z
  by_cases c0 : ∀ u ∈ t :: r, u.getD k 0 = 48
  · have q0 := e0.mpr c0
    rw [if_pos (by omega), if_pos]
    · exact (c0 t List.mem_cons_self).symm
    · rw [List.all_map]
      refine List.all_eq_true.mpr fun u hu => decide_eq_true ?_
      show u.getD k 0 = _
      rw [c0 u (List.mem_cons_of_mem _ hu), c0 t List.mem_cons_self]
  · rw [if_neg fun z => c0 (e0.mp (by omega))]
    by_cases c1 : ∀ u ∈ t :: r, u.getD k 0 = 49
    · have q1 := e1.mpr c1
      rw [if_pos (by omega), if_pos]
      · exact (c1 t List.mem_cons_self).symm
      · rw [List.all_map]
        refine List.all_eq_true.mpr fun u hu => decide_eq_true ?_
        show u.getD k 0 = _
        rw [c1 u (List.mem_cons_of_mem _ hu), c1 t List.mem_cons_self]
    · rw [if_neg fun z => c1 (e1.mp (by omega)), if_neg]
      intro z
      rw [List.all_map] at z
      have z := List.all_eq_true.mp z
      rcases sg t List.mem_cons_self with q | q
      · refine c0 fun u hu => ?_
        rcases List.mem_cons.mp hu with e | e
        · rw [e]; exact q
        · exact (of_decide_eq_true (z u e)).trans q
      · refine c1 fun u hu => ?_
        rcases List.mem_cons.mp hu with e | e
        · rw [e]; exact q
        · exact (of_decide_eq_true (z u e)).trans q
theorem pow_le2 {a b : Nat} (h : a ≤ b) : (2 : Int) ^ a ≤ 2 ^ b := by
  have := Nat.pow_le_pow_right (by decide : 0 < 2) h
  have e : ∀ k : Nat, ((2 ^ k : Nat) : Int) = (2 : Int) ^ k := fun k => by rw [Int.natCast_pow]; rfl
  rw [← e, ← e]
  exact_mod_cast this

theorem sortD_kvT {l : List Tag} (h : l.length < 64) : sortDK (some (kvT l)) = some (.ret (.list ((sortS l).map S))) := by
  have e : kvT l = (l.map fun t => (t, PyData.bool true)).map fun t => (Sum.inr ⟨t.1.toArray⟩, t.2) := by
    unfold kvT
    rw [List.map_map]
    rfl
  show (match keysS (kvT l) with | some (ts : List (List Nat × PyData)) => if ts.length < 64 then some (RO.ret (.list ((sortS (ts.map Prod.fst)).map S))) else none | none => none) = _
  rw [e, keysS_map]
  show (if (l.map fun t => (t, PyData.bool true)).length < 64 then _ else _) = _
  rw [List.length_map, if_pos h, List.map_map]
  have e2 : l.map ((fun (x : Tag × PyData) => x.1) ∘ fun t => (t, PyData.bool true)) = l := by
    have : ((fun (x : Tag × PyData) => x.1) ∘ fun t => (t, PyData.bool true)) = id := rfl
    rw [this, List.map_id]
  rw [e2]
theorem kvT_len (l : List Tag) : (kvT l).length = l.length := List.length_map _
/-- as the built-in eqv of data that is laid tells itself -/
theorem eqv_self {d : PyData} (h : SeqAt.shaped d = true) : PyData.eqv d d = true := SeqAt.eqv_refl _ (SeqAt.canLay_of_shaped h)
end K

namespace K
open PySem PySem.Spec PyProof.Rows L2 Dl Rl
/-! ### walks -/
inductive Way where
  | plain
  | skip
  | marks
deriving DecidableEq
def wayT : Way → Tag
  | .plain => [112, 108, 97, 105, 110]
  | .skip => [115, 107, 105, 112]
  | .marks => [109, 97, 114, 107, 115]
abbrev Row := Tag × Option Tag
def hearO (ls : List Tag) (b : Tag) : Option Tag := match amF b ls with
  | [] => none
  | t :: r => some ((List.range (t.length - b.length)).map (soundF b t r))
def encO : Option Tag → PyData
  | none => .none
  | some s => S s
theorem heard_enc (ls : List Tag) (b : Tag) : heardF ls b = encO (hearO ls b) := by
  unfold heardF hearO
  cases amF b ls <;> rfl
def headX (s : Tag) : Tag := s.takeWhile fun q => decide (q ≠ 120)
def goT (w : Way) (b s : Tag) : Tag := if w = .marks then b ++ headX s else b
section
variable (ls : List Tag) (w : Way)
mutual
def wk : Nat → Tag → List Row
  | 0, _ => []
  | f + 1, b => (b, hearO ls b) :: bh f b (hearO ls b)
def bh : Nat → Tag → Option Tag → List Row
  | 0, _, _ => []
  | _ + 1, _, none => []
  | f + 1, b, some s => if 120 ∈ s then
      wk f (goT w b s ++ [48]) ++ (if w = .skip ∧ hearO ls (goT w b s ++ [48]) = none then bh f (goT w b s ++ [49]) (some [120]) else wk f (goT w b s ++ [49]))
    else []
end
end
theorem hear_len {ls : List Tag} {b s : Tag} {n : Nat} (hl : ∀ t ∈ ls, t.length = n) (h : hearO ls b = some s) : b.length + s.length = n := by
  unfold hearO at h
  rcases he : amF b ls with _ | ⟨t, r⟩
  · rw [he] at h; cases h
  · rw [he] at h
    cases h
    have hm := am_mem (b := b) (ls := ls) (t := t) (by rw [he]; exact List.mem_cons_self)
    have h1 := hl t hm.1
    have h2 := congrArg List.length hm.2
    rw [List.length_take] at h2
    rw [List.length_map, List.length_range]
    omega
theorem headX_lt {s : Tag} (h : 120 ∈ s) : (headX s).length < s.length := by
  induction s with
  | nil => cases h
  | cons q s ih =>
    unfold headX
    rw [List.takeWhile_cons]
    by_cases e : q = 120
    · rw [if_neg (by simp [e])]
      simp
    · rw [if_pos (by simp [e])]
      have : 120 ∈ s := by
        rcases List.mem_cons.mp h with z | z
        · exact absurd z.symm e
        · exact z
      have := ih this
      unfold headX at this
      simp only [List.length_cons]
      omega
theorem go_len {w : Way} {b s : Tag} (h : 120 ∈ s) : b.length ≤ (goT w b s).length ∧ (goT w b s).length < b.length + s.length := by
  unfold goT
  have := headX_lt h
  split
  · rw [List.length_append]; omega
  · have : 0 < s.length := List.length_pos_of_mem h
    omega
theorem take_snoc {t : Tag} {k : Nat} (h : k < t.length) : t.take (k + 1) = t.take k ++ [t.getD k 0] := by
  rw [List.take_add_one, List.getD_eq_getElem?_getD, List.getElem?_eq_getElem h]
  rfl
theorem am_app {ls : List Tag} {b : Tag} {n : Nat} (hl : ∀ t ∈ ls, t.length = n) (hb : b.length < n) (q : Nat) : amF (b ++ [q]) ls = (amF b ls).filter fun t => decide (t.getD b.length 0 = q) := by
  unfold amF
  rw [List.filter_filter]
  refine List.filter_congr fun t ht => ?_
  have h1 := hl t ht
  rw [List.length_append, List.length_singleton, take_snoc (by omega)]
  by_cases e1 : t.take b.length = b
  · rw [e1, decide_eq_true (rfl : b = b), Bool.and_true]
    by_cases e2 : t.getD b.length 0 = q
    · rw [e2, decide_eq_true rfl, decide_eq_true rfl]
    · rw [decide_eq_false e2, decide_eq_false fun z => e2 (by simpa using z)]
  · rw [decide_eq_false e1, Bool.and_false]
    refine decide_eq_false fun z => e1 ?_
    have := congrArg (List.take b.length) z
    rw [List.take_append_of_le_length (by rw [List.length_take]; omega), List.take_take, Nat.min_self, List.take_append_of_le_length (Nat.le_refl _), List.take_of_length_le (Nat.le_refl _)] at this
    exact this
theorem sound_app {b t : Tag} {r : List Tag} {q i : Nat} : soundF (b ++ [q]) t r i = soundF b t r (i + 1) := by
  unfold soundF
  rw [List.length_append, List.length_singleton, show b.length + 1 + i = b.length + (i + 1) by omega]
/-- nothing under the one sign: all is under the other -/
theorem hear_one {ls : List Tag} {b s0 : Tag} {n : Nat} (ht : ∀ t ∈ ls, IsTag n t) (h0 : hearO ls b = some s0) (hx : 120 ∈ s0) (hn : hearO ls (b ++ [48]) = none) : ∃ s1, hearO ls (b ++ [49]) = some s1 ∧ 120 ∈ s1 := by
  have hl : ∀ t ∈ ls, t.length = n := fun t h => (ht t h).1
  have hln := hear_len hl h0
  have hbn : b.length < n := by have := List.length_pos_of_mem hx; omega
  unfold hearO at h0
  rcases he : amF b ls with _ | ⟨t, r⟩
  · rw [he] at h0; cases h0
  rw [he] at h0
  have h0 := Option.some.inj h0
  have hmem : ∀ u ∈ t :: r, IsTag n u := fun u hu => ht u (am_mem (b := b) (by rw [he]; exact hu)).1
  have h48 : amF (b ++ [48]) ls = [] := by
    unfold hearO at hn
    rcases h4 : amF (b ++ [48]) ls with _ | ⟨u, v⟩
    · rfl
    · rw [h4] at hn; cases hn
  have sg : ∀ u ∈ t :: r, u.getD b.length 0 = 49 := fun u hu => by
    obtain ⟨g1, g2⟩ := hmem u hu
    have hlt : b.length < u.length := by omega
    have g3 : u.getD b.length 0 = 48 ∨ u.getD b.length 0 = 49 := by
      rw [List.getD_eq_getElem?_getD, List.getElem?_eq_getElem hlt]
      exact g2 _ (List.getElem_mem hlt)
    refine g3.resolve_left fun z => ?_
    rw [am_app hl hbn, he, List.filter_eq_nil_iff] at h48
    exact h48 u hu (decide_eq_true z)
  have e49 : amF (b ++ [49]) ls = t :: r := by
    rw [am_app hl hbn, he]
    exact List.filter_eq_self.mpr fun u hu => decide_eq_true (sg u hu)
  refine ⟨(List.range (t.length - (b ++ [49]).length)).map (soundF (b ++ [49]) t r), by unfold hearO; rw [e49], ?_⟩
  rw [← h0] at hx
  obtain ⟨i, hi, hs⟩ := List.mem_map.mp hx
  have hi := List.mem_range.mp hi
  have h1 := (hmem t List.mem_cons_self).1
  cases i with
  | zero =>
    exfalso
    unfold soundF blurF at hs
    rw [Nat.add_zero, sg t List.mem_cons_self, if_pos] at hs
    · cases hs
    · rw [List.all_map]
      exact List.all_eq_true.mpr fun u hu => decide_eq_true (sg u (List.mem_cons_of_mem _ hu))
  | succ i =>
    refine List.mem_map.mpr ⟨i, List.mem_range.mpr (by rw [List.length_append, List.length_singleton]; omega), ?_⟩
    rw [sound_app]
    exact hs
/-- s is what is heard at b, or stands for it -/
def Fit (ls : List Tag) (b : Tag) (s : Option Tag) : Prop := ∀ s', s = some s' → 120 ∈ s' → ∃ s0, hearO ls b = some s0 ∧ 120 ∈ s0 ∧ s'.length ≤ s0.length
theorem fit_hear {ls : List Tag} {b : Tag} : Fit ls b (hearO ls b) := fun s' h hx => ⟨s', h, hx, Nat.le_refl _⟩
theorem fit_x {ls : List Tag} {b s0 : Tag} {n : Nat} (ht : ∀ t ∈ ls, IsTag n t) (h0 : hearO ls b = some s0) (hx : 120 ∈ s0) (hn : hearO ls (b ++ [48]) = none) : Fit ls (b ++ [49]) (some [120]) := fun s' h _ => by
  cases h
  obtain ⟨s1, h1, h2⟩ := hear_one ht h0 hx hn
  exact ⟨s1, h1, h2, List.length_pos_of_mem h2⟩
/-- with enough fuel one turn more changes nothing -/
theorem fuel {ls : List Tag} {w : Way} {n : Nat} (ht : ∀ t ∈ ls, IsTag n t) : ∀ f, (∀ b, 2 * (n - b.length) + 2 ≤ f → wk ls w (f + 1) b = wk ls w f b) ∧ (∀ b s, Fit ls b s → 2 * (n - b.length) + 1 ≤ f → bh ls w (f + 1) b s = bh ls w f b s)
  | 0 => ⟨fun b h => by omega, fun b s _ h => by omega⟩
  | f + 1 => by
    have hl : ∀ t ∈ ls, t.length = n := fun t h => (ht t h).1
    obtain ⟨h1, h2⟩ := fuel ht f
    refine ⟨fun b h => ?_, fun b s hs h => ?_⟩
    · show (b, hearO ls b) :: bh ls w (f + 1) b (hearO ls b) = (b, hearO ls b) :: bh ls w f b (hearO ls b)
      rw [h2 b _ fit_hear (by omega)]
    · rcases s with _ | s
      · rfl
      · unfold bh
        by_cases hx : 120 ∈ s
        · rw [if_pos hx, if_pos hx]
          obtain ⟨s0, q1, q2, q3⟩ := hs s rfl hx
          have hb := hear_len hl q1
          have hg := go_len (w := w) (b := b) hx
          have e1 : ∀ q, wk ls w (f + 1) (goT w b s ++ [q]) = wk ls w f (goT w b s ++ [q]) := fun q => h1 _ (by rw [List.length_append, List.length_singleton]; omega)
          rw [e1, e1]
          by_cases hk : w = .skip ∧ hearO ls (goT w b s ++ [48]) = none
          · rw [if_pos hk, if_pos hk]
            have eb : goT w b s = b := by unfold goT; rw [hk.1]; rfl
            rw [eb] at hk ⊢
            rw [h2 _ _ (fit_x ht q1 q2 hk.2) (by rw [List.length_append, List.length_singleton]; omega)]
          · rw [if_neg hk, if_neg hk]
        · rw [if_neg hx, if_neg hx]
section
variable {ls : List Tag} {w : Way} {n : Nat}
def wF (ls : List Tag) (w : Way) (n : Nat) (b : Tag) : List Row := wk ls w (2 * (n - b.length) + 2) b
def bF (ls : List Tag) (w : Way) (n : Nat) (b : Tag) (s : Option Tag) : List Row := bh ls w (2 * (n - b.length) + 1) b s
theorem wk_enough (ht : ∀ t ∈ ls, IsTag n t) {b : Tag} : ∀ d, wk ls w (2 * (n - b.length) + 2 + d) b = wF ls w n b
  | 0 => rfl
  | d + 1 => by rw [← wk_enough ht d]; exact (fuel ht (2 * (n - b.length) + 2 + d)).1 b (by omega)
theorem bh_enough (ht : ∀ t ∈ ls, IsTag n t) {b : Tag} {s : Option Tag} (hs : Fit ls b s) : ∀ d, bh ls w (2 * (n - b.length) + 1 + d) b s = bF ls w n b s
  | 0 => rfl
  | d + 1 => by rw [← bh_enough ht hs d]; exact (fuel ht (2 * (n - b.length) + 1 + d)).2 b s hs (by omega)
theorem wF_eq (b : Tag) : wF ls w n b = (b, hearO ls b) :: bF ls w n b (hearO ls b) := rfl
theorem bF_none (b : Tag) : bF ls w n b none = [] := rfl
theorem bF_nox {b s : Tag} (h : 120 ∉ s) : bF ls w n b (some s) = [] := by
  unfold bF bh
  rw [if_neg h]
theorem bF_x (ht : ∀ t ∈ ls, IsTag n t) {b s : Tag} (hs : Fit ls b (some s)) (hx : 120 ∈ s) :
    bF ls w n b (some s) = wF ls w n (goT w b s ++ [48]) ++ (if w = .skip ∧ hearO ls (goT w b s ++ [48]) = none then bF ls w n (goT w b s ++ [49]) (some [120]) else wF ls w n (goT w b s ++ [49])) := by
  have hl : ∀ t ∈ ls, t.length = n := fun t h => (ht t h).1
  obtain ⟨s0, q1, q2, q3⟩ := hs s rfl hx
  have hb := hear_len hl q1
  have hg := go_len (w := w) (b := b) hx
  have e : ∀ q, wk ls w (2 * (n - b.length)) (goT w b s ++ [q]) = wF ls w n (goT w b s ++ [q]) := fun q => by
    have hle : (goT w b s ++ [q]).length = (goT w b s).length + 1 := by rw [List.length_append, List.length_singleton]
    have := wk_enough (w := w) ht (b := goT w b s ++ [q]) (2 * (n - b.length) - (2 * (n - (goT w b s ++ [q]).length) + 2))
    rw [show 2 * (n - (goT w b s ++ [q]).length) + 2 + (2 * (n - b.length) - (2 * (n - (goT w b s ++ [q]).length) + 2)) = 2 * (n - b.length) by omega] at this
    exact this
  show bh ls w (2 * (n - b.length) + 1) b (some s) = _
  unfold bh
  rw [if_pos hx, e, e]
  by_cases hk : w = .skip ∧ hearO ls (goT w b s ++ [48]) = none
  · rw [if_pos hk, if_pos hk]
    have eb : goT w b s = b := by unfold goT; rw [hk.1]; rfl
    rw [eb] at hk ⊢
    have hle : (b ++ [49] : Tag).length = b.length + 1 := by rw [List.length_append, List.length_singleton]
    obtain ⟨d, hd⟩ : ∃ d, 2 * (n - b.length) = 2 * (n - (b ++ [49] : Tag).length) + 1 + d := ⟨2 * (n - b.length) - (2 * (n - (b ++ [49] : Tag).length) + 1), by omega⟩
    rw [hd, bh_enough (w := w) (b := b ++ [49]) ht (fit_x ht q1 q2 hk.2)]
  · rw [if_neg hk, if_neg hk]
theorem len_wk : ∀ f, (∀ b, (wk ls w f b).length ≤ 2 ^ f) ∧ ∀ b s, (bh ls w f b s).length ≤ 2 ^ f
  | 0 => ⟨fun b => Nat.zero_le _, fun b s => Nat.zero_le _⟩
  | f + 1 => by
    obtain ⟨h1, h2⟩ := len_wk f
    have hp : 1 ≤ 2 ^ f := Nat.one_le_two_pow
    have e2 : 2 ^ (f + 1) = 2 ^ f + 2 ^ f := by rw [Nat.pow_succ]; omega
    refine ⟨fun b => ?_, fun b s => ?_⟩
    · show (bh ls w f b (hearO ls b)).length + 1 ≤ _
      have := h2 b (hearO ls b)
      omega
    · rcases s with _ | s
      · exact Nat.zero_le _
      · unfold bh
        split
        · rw [List.length_append]
          have a1 := h1 (goT w b s ++ [48])
          split
          · have := h2 (goT w b s ++ [49]) (some [120]); omega
          · have := h1 (goT w b s ++ [49]); omega
        · exact Nat.zero_le _
/-! the stack -/
abbrev Ent := Tag × Bool
def grow (b : Tag) : List Ent := [(b ++ [48], true), (b ++ [49], false)]
def pr (ls : List Tag) (w : Way) (n : Nat) : List Ent → List Row
  | [] => []
  | [(b, _)] => wF ls w n b
  | (b, f) :: (b2, f2) :: r => if f = true ∧ w = .skip ∧ hearO ls b = none ∧ b.length < n then wF ls w n b ++ (bF ls w n b2 (some [120]) ++ pr ls w n r) else wF ls w n b ++ pr ls w n ((b2, f2) :: r)
def aftF (w : Way) (n : Nat) (e : Ent) (s : Option Tag) (rest : List Ent) : List Ent := match s with
  | none => if e.2 = true ∧ w = .skip ∧ e.1.length < n then (match rest with
      | [] => []
      | (b2, _) :: r => grow b2 ++ r) else rest
  | some s => if 120 ∈ s then grow (goT w e.1 s) ++ rest else rest
inductive StOk (ls : List Tag) (w : Way) : List Ent → Prop
  | nil : StOk ls w []
  | one {b : Tag} {r : List Ent} (h : StOk ls w r) : StOk ls w ((b, false) :: r)
  | two {p : Tag} {r : List Ent} (hx : w = .skip → ∃ s0, hearO ls p = some s0 ∧ 120 ∈ s0) (h : StOk ls w r) : StOk ls w ((p ++ [48], true) :: (p ++ [49], false) :: r)
theorem pr_two {b b2 : Tag} {f f2 : Bool} {r : List Ent} : pr ls w n ((b, f) :: (b2, f2) :: r) = if f = true ∧ w = .skip ∧ hearO ls b = none ∧ b.length < n then wF ls w n b ++ (bF ls w n b2 (some [120]) ++ pr ls w n r) else wF ls w n b ++ pr ls w n ((b2, f2) :: r) := by rw [pr]
theorem aft_some {e : Ent} {s : Tag} {rest : List Ent} : aftF w n e (some s) rest = if 120 ∈ s then grow (goT w e.1 s) ++ rest else rest := rfl
theorem pr_false {b : Tag} {r : List Ent} : pr ls w n ((b, false) :: r) = wF ls w n b ++ pr ls w n r := by
  rcases r with _ | ⟨⟨b2, f2⟩, r⟩
  · show wF ls w n b = wF ls w n b ++ []
    rw [List.append_nil]
  · show (if false = true ∧ _ then _ else _) = _
    rw [if_neg (fun z => Bool.false_ne_true z.1)]
theorem pr_x (ht : ∀ t ∈ ls, IsTag n t) {b s : Tag} (hs : Fit ls b (some s)) (hx : 120 ∈ s) (r : List Ent) : bF ls w n b (some s) ++ pr ls w n r = pr ls w n (grow (goT w b s) ++ r) := by
  have hl : ∀ t ∈ ls, t.length = n := fun t h => (ht t h).1
  rw [bF_x ht hs hx]
  show _ = pr ls w n ((goT w b s ++ [48], true) :: (goT w b s ++ [49], false) :: r)
  rw [pr_two]
  by_cases hk : w = .skip ∧ hearO ls (goT w b s ++ [48]) = none
  · have eb : goT w b s = b := by unfold goT; rw [hk.1]; rfl
    obtain ⟨s0, q1, q2, q3⟩ := hs s rfl hx
    rw [eb] at hk ⊢
    obtain ⟨s1, g1, g2⟩ := hear_one ht q1 q2 hk.2
    have := hear_len hl g1
    have g3 := List.length_pos_of_mem g2
    rw [List.length_append, List.length_singleton] at this
    rw [if_pos hk, if_pos ⟨rfl, hk.1, hk.2, by rw [List.length_append, List.length_singleton]; omega⟩, List.append_assoc]
  · rw [if_neg hk, if_neg (fun z => hk ⟨z.2.1, z.2.2.1⟩), pr_false, List.append_assoc]
theorem pr_step (ht : ∀ t ∈ ls, IsTag n t) {e : Ent} {r : List Ent} (h : StOk ls w (e :: r)) : pr ls w n (e :: r) = (e.1, hearO ls e.1) :: pr ls w n (aftF w n e (hearO ls e.1) r) := by
  have step : ∀ (b : Tag) (f : Bool) (rest : List Ent), ¬ (f = true ∧ w = .skip ∧ hearO ls b = none ∧ b.length < n) → wF ls w n b ++ pr ls w n rest = (b, hearO ls b) :: pr ls w n (aftF w n (b, f) (hearO ls b) rest) := fun b f rest hn => by
    rw [wF_eq, List.cons_append]
    congr 1
    rcases hs : hearO ls b with _ | s
    · rw [bF_none, List.nil_append]
      show _ = pr ls w n (if f = true ∧ w = .skip ∧ b.length < n then _ else rest)
      rw [if_neg (fun z => hn ⟨z.1, z.2.1, hs, z.2.2⟩)]
    · rw [aft_some]
      by_cases hx : 120 ∈ s
      · rw [if_pos hx]
        exact pr_x ht (by rw [← hs]; exact fit_hear) hx rest
      · rw [bF_nox hx, if_neg hx, List.nil_append]
  cases h with
  | one h =>
    rw [pr_false]
    exact step _ _ _ (fun z => Bool.false_ne_true z.1)
  | two hx h =>
    rename_i p r
    by_cases hk : (true = true ∧ w = .skip ∧ hearO ls (p ++ [48]) = none ∧ (p ++ [48]).length < n)
    · have hu : pr ls w n ((p ++ [48], true) :: (p ++ [49], false) :: r) = wF ls w n (p ++ [48]) ++ (bF ls w n (p ++ [49]) (some [120]) ++ pr ls w n r) := by
        rw [pr_two, if_pos hk]
      rw [hu, wF_eq, hk.2.2.1, bF_none, List.singleton_append]
      congr 1
      obtain ⟨s0, q1, q2⟩ := hx hk.2.1
      have := pr_x (w := w) ht (fit_x ht q1 q2 hk.2.2.1) (by simp) r
      rw [this]
      show _ = pr ls w n (if true = true ∧ w = .skip ∧ (p ++ [48]).length < n then grow (p ++ [49]) ++ r else _)
      rw [if_pos ⟨rfl, hk.2.1, hk.2.2.2⟩]
      have eb : goT w (p ++ [49]) [120] = p ++ [49] := by unfold goT; rw [hk.2.1]; rfl
      rw [eb]
    · have hu : pr ls w n ((p ++ [48], true) :: (p ++ [49], false) :: r) = wF ls w n (p ++ [48]) ++ pr ls w n ((p ++ [49], false) :: r) := by
        rw [pr_two, if_neg hk]
      rw [hu]
      exact step _ _ _ hk
theorem st_step (ht : ∀ t ∈ ls, IsTag n t) {e : Ent} {r : List Ent} (h : StOk ls w (e :: r)) : StOk ls w (aftF w n e (hearO ls e.1) r) := by
  have tail : StOk ls w r := by
    cases h with
    | one h => exact h
    | two hx h => exact .one h
  unfold aftF
  rcases hs : hearO ls e.1 with _ | s
  · dsimp only
    split
    · rename_i hk
      cases h with
      | one h => exact absurd hk.1 Bool.false_ne_true
      | two hx h =>
        rename_i p r
        obtain ⟨s0, q1, q2⟩ := hx hk.2.1
        exact .two (fun _ => hear_one ht q1 q2 hs) h
    · exact tail
  · dsimp only
    split
    · rename_i hx
      refine .two (fun hk => ⟨s, ?_, hx⟩) tail
      have eb : goT w e.1 s = e.1 := by unfold goT; rw [hk]; rfl
      rw [eb]
      exact hs
    · exact tail
end
def entD (e : Ent) : PyData := .tuple [S e.1, .bool e.2]
def rowD (r : Row) : PyData := .tuple [S r.1, encO r.2]
theorem way_skip {w : Way} : decide (wayT w = [115, 107, 105, 112]) = decide (w = .skip) := by cases w <;> rfl
theorem way_marks {w : Way} : decide (wayT w = [109, 97, 114, 107, 115]) = decide (w = .marks) := by cases w <;> rfl
theorem head_at {s : Tag} (h : 120 ∈ s) : s[(headX s).length]? = some 120 ∧ (∀ i, i < (headX s).length → s[i]? ≠ some 120) ∧ s.take (headX s).length = headX s := by
  induction s with
  | nil => cases h
  | cons q s ih =>
    by_cases e : q = 120
    · have eh : headX (q :: s) = [] := by unfold headX; rw [List.takeWhile_cons, if_neg (by simp [e])]
      rw [eh]
      exact ⟨by rw [e]; rfl, fun i hi => absurd hi (Nat.not_lt_zero _), rfl⟩
    · have eh : headX (q :: s) = q :: headX s := by unfold headX; rw [List.takeWhile_cons, if_pos (by simp [e])]
      have hm : 120 ∈ s := (List.mem_cons.mp h).resolve_left fun z => e z.symm
      obtain ⟨h1, h2, h3⟩ := ih hm
      rw [eh]
      refine ⟨h1, fun i hi => ?_, by rw [List.length_cons, List.take_succ_cons, h3]⟩
      cases i with
      | zero => exact fun z => e (Option.some.inj z)
      | succ i => exact h2 i (by rw [List.length_cons] at hi; omega)
theorem cut_headX {s : Tag} (h : 120 ∈ s) : cut s none (some (((headX s).length : Nat) : Int)) = headX s := by
  rw [cut_to s (by omega), Int.toNat_natCast, (head_at h).2.2]

end K

namespace K
open PySem PySem.Spec PyProof.Rows L2 Dl Rl
section
variable {ls : List Tag} {w : Way} {n : Nat}
/-! ### how long walks are -/
theorem two_mono {a b : Nat} (h : a ≤ b) : 2 ^ a ≤ 2 ^ b := Nat.pow_le_pow_right (by decide) h
theorem len2 (ht : ∀ t ∈ ls, IsTag n t) : ∀ f, (∀ b : Tag, b.length ≤ n → (wk ls w f b).length + 1 ≤ 2 ^ (n - b.length + 1)) ∧ ∀ (b : Tag) s, b.length ≤ n → Fit ls b s → (bh ls w f b s).length + 2 ≤ 2 ^ (n - b.length + 1)
  | 0 => by
    have two : ∀ k, 2 ≤ 2 ^ (k + 1) := fun k => by have := two_mono (show 1 ≤ k + 1 by omega); omega
    exact ⟨fun b _ => by show 0 + 1 ≤ _; have := two (n - b.length); omega, fun b s _ _ => by show 0 + 2 ≤ _; exact two _⟩
  | f + 1 => by
    have two : ∀ k, 2 ≤ 2 ^ (k + 1) := fun k => by have := two_mono (show 1 ≤ k + 1 by omega); omega
    obtain ⟨h1, h2⟩ := len2 ht f
    have hl : ∀ t ∈ ls, t.length = n := fun t h => (ht t h).1
    refine ⟨fun b hb => ?_, fun b s hb hs => ?_⟩
    · show (bh ls w f b (hearO ls b)).length + 1 + 1 ≤ _
      have := h2 b _ hb fit_hear
      omega
    · rcases s with _ | s
      · exact two _
      · unfold bh
        by_cases hx : 120 ∈ s
        · rw [if_pos hx]
          obtain ⟨s0, q1, q2, q3⟩ := hs s rfl hx
          have e0 := hear_len hl q1
          have hg := go_len (w := w) (b := b) hx
          have lq : ∀ q : Nat, (goT w b s ++ [q]).length = (goT w b s).length + 1 := fun q => by rw [List.length_append, List.length_singleton]
          have a1 := h1 (goT w b s ++ [48]) (by rw [lq]; omega)
          rw [lq] at a1
          have p1 : 2 ^ (n - ((goT w b s).length + 1) + 1) ≤ 2 ^ (n - b.length) := two_mono (by omega)
          have p2 : 2 ^ (n - b.length + 1) = 2 ^ (n - b.length) + 2 ^ (n - b.length) := by rw [Nat.pow_succ]; omega
          rw [List.length_append]
          by_cases hk : w = .skip ∧ hearO ls (goT w b s ++ [48]) = none
          · rw [if_pos hk]
            have eb : goT w b s = b := by unfold goT; rw [hk.1]; rfl
            rw [eb] at hk
            have a2 := h2 (goT w b s ++ [49]) (some [120]) (by rw [lq]; omega) (by rw [eb]; exact fit_x ht q1 q2 hk.2)
            rw [lq] at a2
            omega
          · rw [if_neg hk]
            have a2 := h1 (goT w b s ++ [49]) (by rw [lq]; omega)
            rw [lq] at a2
            omega
        · rw [if_neg hx]
          exact two _
theorem wF_len (ht : ∀ t ∈ ls, IsTag n t) {b : Tag} (hb : b.length ≤ n) : (wF ls w n b).length + 1 ≤ 2 ^ (n - b.length + 1) := (len2 ht _).1 b hb
theorem st_len (ht : ∀ t ∈ ls, IsTag n t) {st : List Ent} (h : StOk ls w st) : st.length ≤ (pr ls w n st).length := by
  induction h with
  | nil => exact Nat.le_refl _
  | one h ih =>
    rw [pr_false, List.length_append, wF_eq, List.length_cons, List.length_cons]
    omega
  | two hx h ih =>
    rename_i p r
    rw [pr_two]
    by_cases hk : (true = true ∧ w = .skip ∧ hearO ls (p ++ [48]) = none ∧ (p ++ [48]).length < n)
    · rw [if_pos hk]
      obtain ⟨s0, q1, q2⟩ := hx hk.2.1
      rw [List.length_append, List.length_append, bF_x ht (fit_x ht q1 q2 hk.2.2.1) (by simp), List.length_append, wF_eq, wF_eq]
      simp only [List.length_cons]
      omega
    · rw [if_neg hk, List.length_append, pr_false, List.length_append, wF_eq, wF_eq]
      simp only [List.length_cons]
      omega
theorem aft_len (ht : ∀ t ∈ ls, IsTag n t) {e : Ent} {r : List Ent} (h : ∀ x ∈ e :: r, x.1.length ≤ n) (hok : StOk ls w (e :: r)) : ∀ x ∈ aftF w n e (hearO ls e.1) r, x.1.length ≤ n := by
  have hl : ∀ t ∈ ls, t.length = n := fun t h => (ht t h).1
  have lq : ∀ (b : Tag) (q : Nat), (b ++ [q]).length = b.length + 1 := fun b q => by rw [List.length_append, List.length_singleton]
  have gr : ∀ (b : Tag) (r' : List Ent), b.length < n → (∀ x ∈ r', x.1.length ≤ n) → ∀ x ∈ grow b ++ r', x.1.length ≤ n := fun b r' hb hr x hx => by
    rcases List.mem_append.mp hx with z | z
    · unfold grow at z
      rcases List.mem_cons.mp z with z | z
      · rw [z]; show (b ++ [48]).length ≤ n; rw [lq]; omega
      · rcases List.mem_cons.mp z with z | z
        · rw [z]; show (b ++ [49]).length ≤ n; rw [lq]; omega
        · cases z
    · exact hr x z
  unfold aftF
  rcases hs : hearO ls e.1 with _ | s
  · dsimp only
    split
    · rename_i hk
      cases hok with
      | one h => exact absurd hk.1 Bool.false_ne_true
      | two hx h2 =>
        rename_i p r
        have hk2 : (p ++ [48]).length < n := hk.2.2
        rw [lq] at hk2
        exact gr _ _ (by rw [lq]; omega) (fun x hx => h x (List.mem_cons_of_mem _ (List.mem_cons_of_mem _ hx)))
    · exact fun x hx => h x (List.mem_cons_of_mem _ hx)
  · dsimp only
    split
    · rename_i hx
      have := hear_len hl hs
      have hg := go_len (w := w) (b := e.1) hx
      exact gr _ _ (by omega) (fun x hx => h x (List.mem_cons_of_mem _ hx))
    · exact fun x hx => h x (List.mem_cons_of_mem _ hx)
/-! ### what is told -/
def toldR (r : Row) : Option Tag := match r.2 with
  | some s => if 120 ∈ s then none else some (r.1 ++ s)
  | none => none
def toldF (rs : List Row) : List Tag := rs.filterMap toldR
theorem told_app (a b : List Row) : toldF (a ++ b) = toldF a ++ toldF b := List.filterMap_append
theorem toldR_x {b s : Tag} (h : 120 ∈ s) : toldR (b, some s) = none := if_pos h
theorem toldR_s {b s : Tag} (h : 120 ∉ s) : toldR (b, some s) = some (b ++ s) := if_neg h
theorem told_c0 {r : Row} (h : toldR r = none) : toldF [r] = [] := by
  unfold toldF
  rw [List.filterMap_cons_none h]
  rfl
theorem told_c1 {r : Row} {t : Tag} (h : toldR r = some t) : toldF [r] = [t] := by
  unfold toldF
  rw [List.filterMap_cons_some h]
  rfl
theorem blur_ne {q : Nat} {r : List Nat} (h : blurF q r ≠ 120) : blurF q r = q ∧ ∀ y ∈ r, y = q := by
  unfold blurF at h ⊢
  split at h
  · rename_i z
    rw [if_pos z]
    exact ⟨rfl, fun y hy => of_decide_eq_true (List.all_eq_true.mp z y hy)⟩
  · exact absurd rfl h
theorem hear_take (hl : ∀ t ∈ ls, t.length = n) {b s : Tag} (h : hearO ls b = some s) : ∀ k, k ≤ s.length → (∀ i, i < k → s[i]? ≠ some 120) → ∀ u ∈ amF b ls, u.take (b.length + k) = b ++ s.take k
  | 0, _, _, u, hu => by rw [Nat.add_zero, (am_mem hu).2, List.take_zero, List.append_nil]
  | k + 1, hk, hn, u, hu => by
    have ih := hear_take hl h k (by omega) (fun i hi => hn i (by omega)) u hu
    have hlen := hear_len hl h
    have hul := hl u (am_mem hu).1
    rw [← Nat.add_assoc, take_snoc (by omega), take_snoc (by omega : k < s.length), ih, List.append_assoc]
    congr 2
    have hnk := hn k (by omega)
    unfold hearO at h
    rcases he : amF b ls with _ | ⟨t0, r⟩
    · rw [he] at hu; cases hu
    · rw [he] at h hu
      have h := Option.some.inj h
      rw [← h, List.length_map, List.length_range] at hk
      have e : s[k]? = some (soundF b t0 r k) := by
        rw [← h, List.getElem?_map, List.getElem?_range (by omega)]
        rfl
      rw [e] at hnk
      have hnk : soundF b t0 r k ≠ 120 := fun z => hnk (by rw [z])
      obtain ⟨g1, g2⟩ := blur_ne hnk
      rw [List.getD_eq_getElem?_getD (l := s), e]
      show [_] = [soundF b t0 r k]
      rw [show soundF b t0 r k = t0.getD (b.length + k) 0 from g1]
      rcases List.mem_cons.mp hu with z | z
      · rw [z]
      · rw [g2 _ (List.mem_map.mpr ⟨u, z, rfl⟩)]
theorem nodup_one {α : Type} {l : List α} {a : α} (hn : l.Nodup) (hne : l ≠ []) (h : ∀ x ∈ l, x = a) : l = [a] := by
  cases l with
  | nil => exact absurd rfl hne
  | cons x r =>
    cases r with
    | nil => rw [h x List.mem_cons_self]
    | cons y r =>
      exfalso
      have h1 := h x List.mem_cons_self
      have h2 := h y (List.mem_cons_of_mem _ List.mem_cons_self)
      rw [h1, h2] at hn
      exact (List.nodup_cons.mp hn).1 List.mem_cons_self
/-- heard with no x: one tag -/
theorem am_one (hl : ∀ t ∈ ls, t.length = n) (hn : ls.Nodup) {b s : Tag} (h : hearO ls b = some s) (hx : 120 ∉ s) : amF b ls = [b ++ s] := by
  refine nodup_one (List.Pairwise.filter _ hn) (fun z => ?_) fun u hu => ?_
  · unfold hearO at h
    rw [show amF b ls = [] from z] at h
    cases h
  · have e := hear_take hl h s.length (Nat.le_refl _) (fun i hi z => hx (List.mem_of_getElem? z)) u hu
    have hlen := hear_len hl h
    have hul := hl u (am_mem hu).1
    rw [List.take_of_length_le (by omega), List.take_of_length_le (Nat.le_refl _)] at e
    exact e
/-- the signs ahead of the first x are had by all -/
theorem am_head (hl : ∀ t ∈ ls, t.length = n) {b s : Tag} (h : hearO ls b = some s) (hx : 120 ∈ s) : amF (b ++ headX s) ls = amF b ls := by
  obtain ⟨h1, h2, h3⟩ := head_at hx
  have hlt := headX_lt hx
  unfold amF
  refine List.filter_congr fun t ht => ?_
  by_cases e : t.take b.length = b
  · rw [decide_eq_true e]
    have := hear_take hl h (headX s).length (by omega) h2 t (List.mem_filter.mpr ⟨ht, decide_eq_true e⟩)
    rw [h3] at this
    rw [List.length_append]
    exact decide_eq_true this
  · rw [decide_eq_false e]
    refine decide_eq_false fun z => e ?_
    have := congrArg (List.take b.length) z
    rw [List.length_append, List.take_take, Nat.min_eq_left (by omega), List.take_left' rfl] at this
    exact this
theorem filter_two {α : Type} {R : α → α → Prop} {p : α → Bool} : ∀ {l : List α}, l.Pairwise R → (∀ x ∈ l, ∀ y ∈ l, p x = false → p y = true → ¬ R x y) → l.filter p ++ l.filter (fun x => !p x) = l
  | [], _, _ => rfl
  | x :: r, hp, h => by
    obtain ⟨h1, h2⟩ := List.pairwise_cons.mp hp
    have ih := filter_two h2 fun a ha b hb => h a (List.mem_cons_of_mem _ ha) b (List.mem_cons_of_mem _ hb)
    rw [List.filter_cons, List.filter_cons]
    cases hx : p x with
    | true =>
      rw [if_pos rfl, if_neg (by decide), List.cons_append, ih]
    | false =>
      rw [if_neg (by decide), if_pos (by decide)]
      have e : r.filter p = [] := List.filter_eq_nil_iff.mpr fun y hy z => h x List.mem_cons_self y (List.mem_cons_of_mem _ hy) hx z (h1 y hy)
      rw [e, List.nil_append] at ih ⊢
      rw [ih]
theorem not_lt_sign : ∀ (b u v : Tag), ¬ (b ++ 49 :: u < b ++ 48 :: v)
  | [], u, v, h => by
    rcases List.cons_lt_cons_iff.mp h with z | z
    · exact absurd z (by decide)
    · exact absurd z.1 (by decide)
  | q :: b, u, v, h => by
    rcases List.cons_lt_cons_iff.mp h with z | z
    · exact absurd z (Nat.lt_irrefl _)
    · exact not_lt_sign b u v z.2
theorem split_at {t b : Tag} (h : t.take b.length = b) (hb : b.length < t.length) : t = b ++ t.getD b.length 0 :: t.drop (b.length + 1) := by
  have e : t = t.take b.length ++ t.drop b.length := (List.take_append_drop _ _).symm
  rw [h, List.drop_eq_getElem_cons hb] at e
  rw [List.getD_eq_getElem?_getD, List.getElem?_eq_getElem hb]
  exact e
/-- those with 0 behind come ahead of those with 1 -/
theorem am_two (hL : IsLot n ls) {b : Tag} (hb : b.length < n) : amF (b ++ [48]) ls ++ amF (b ++ [49]) ls = amF b ls := by
  have hl : ∀ t ∈ ls, t.length = n := fun t h => (hL.tg t h).1
  rw [am_app hl hb, am_app hl hb]
  have sg : ∀ t ∈ amF b ls, t.getD b.length 0 = 48 ∨ t.getD b.length 0 = 49 := fun t ht => by
    obtain ⟨h1, h2⟩ := hL.tg t (am_mem ht).1
    have hlt : b.length < t.length := by omega
    rw [List.getD_eq_getElem?_getD, List.getElem?_eq_getElem hlt]
    exact h2 _ (List.getElem_mem hlt)
  have e : (amF b ls).filter (fun t => decide (t.getD b.length 0 = 49)) = (amF b ls).filter (fun t => !decide (t.getD b.length 0 = 48)) := by
    refine List.filter_congr fun t ht => ?_
    rcases sg t ht with z | z <;> rw [z] <;> rfl
  rw [e]
  refine filter_two (R := (· < ·)) (List.Pairwise.filter _ hL.up) fun x hx y hy px py z => ?_
  have ex : x.getD b.length 0 = 49 := (sg x hx).resolve_left fun q => by rw [decide_eq_true q] at px; cases px
  have ey := of_decide_eq_true py
  have sx := split_at (am_mem hx).2 (by rw [hl x (am_mem hx).1]; exact hb)
  have sy := split_at (am_mem hy).2 (by rw [hl y (am_mem hy).1]; exact hb)
  rw [ex] at sx
  rw [ey] at sy
  rw [sx, sy] at z
  exact not_lt_sign _ _ _ z
theorem lot_nodup (hL : IsLot n ls) : ls.Nodup := hL.up.imp fun {a b} h e => by subst e; exact List.lt_irrefl _ h
theorem am_none {b : Tag} (h : hearO ls b = none) : amF b ls = [] := by
  unfold hearO at h
  rcases he : amF b ls with _ | ⟨t, r⟩
  · rfl
  · rw [he] at h; cases h
theorem told_wF (hL : IsLot n ls) : ∀ d (b : Tag), n - b.length ≤ d → b.length ≤ n → toldF (wF ls w n b) = amF b ls ∧ ∀ s, Fit ls b (some s) → 120 ∈ s → (w = .marks → hearO ls b = some s) → toldF (bF ls w n b (some s)) = amF b ls
  | d, b, hd, hb => by
    have ht := hL.tg
    have hl : ∀ t ∈ ls, t.length = n := fun t h => (ht t h).1
    have B : ∀ s, Fit ls b (some s) → 120 ∈ s → (w = .marks → hearO ls b = some s) → toldF (bF ls w n b (some s)) = amF b ls := fun s hs hx hm => by
      obtain ⟨s0, q1, q2, q3⟩ := hs s rfl hx
      have e0 := hear_len hl q1
      have hg := go_len (w := w) (b := b) hx
      have lq : ∀ q : Nat, (goT w b s ++ [q]).length = (goT w b s).length + 1 := fun q => by rw [List.length_append, List.length_singleton]
      have ego : amF (goT w b s) ls = amF b ls := by
        unfold goT
        split
        · rename_i z; exact am_head hl (hm z) hx
        · rfl
      cases d with
      | zero => omega
      | succ d =>
        have A1 := (told_wF hL d (goT w b s ++ [48]) (by rw [lq]; omega) (by rw [lq]; omega)).1
        have A2 := told_wF hL d (goT w b s ++ [49]) (by rw [lq]; omega) (by rw [lq]; omega)
        rw [bF_x ht hs hx, told_app, A1]
        by_cases hk : w = .skip ∧ hearO ls (goT w b s ++ [48]) = none
        · rw [if_pos hk]
          have eb : goT w b s = b := by unfold goT; rw [hk.1]; rfl
          rw [A2.2 [120] (by rw [eb] at hk ⊢; exact fit_x ht q1 q2 hk.2) (by simp) (fun z => by rw [z] at hk; cases hk.1), am_two hL (by omega), ego]
        · rw [if_neg hk, A2.1, am_two hL (by omega), ego]
    refine ⟨?_, B⟩
    rw [wF_eq]
    show toldF ([(b, hearO ls b)] ++ bF ls w n b (hearO ls b)) = _
    rw [told_app]
    rcases hs : hearO ls b with _ | s
    · rw [bF_none, am_none hs]
      rfl
    · by_cases hx : 120 ∈ s
      · rw [B s (by rw [← hs]; exact fit_hear) hx (fun _ => hs)]
        have e : toldF [(b, some s)] = [] := by
          exact told_c0 (toldR_x hx)
        rw [e, List.nil_append]
      · rw [bF_nox hx, am_one hl (lot_nodup hL) hs hx]
        rw [told_c1 (toldR_s hx)]
        rfl
theorem am_all (ls : List Tag) : amF [] ls = ls := List.filter_eq_self.mpr fun t _ => by rw [List.length_nil, List.take_zero]; rfl
theorem told_all (hL : IsLot n ls) : toldF (wF ls w n []) = ls := by
  rw [(told_wF (w := w) hL n [] (by rw [List.length_nil]; omega) (Nat.zero_le _)).1, am_all]
end
end K

namespace K
open PySem PySem.Spec PyProof.Rows L2 Dl Rl
/-! ### shapes, and when data are equal -/
mutual
def shN : Nat → PyData → Bool
  | _, .none => true
  | _, .bool _ => true
  | _, .int _ => true
  | _, .str s => PyData.canLay0 (.str s)
  | n + 1, .list ds => shNs n ds
  | n + 1, .tuple ds => shNs n ds
  | _, _ => false
def shNs : Nat → List PyData → Bool
  | _, [] => true
  | n, d :: r => shN n d && shNs n r
end
theorem shNs_of {n : Nat} : ∀ {ds : List PyData}, (∀ d ∈ ds, shN n d = true) → shNs n ds = true
  | [], _ => rfl
  | d :: r, h => Bool.and_eq_true_iff.mpr ⟨h d List.mem_cons_self, shNs_of fun x hx => h x (List.mem_cons_of_mem _ hx)⟩
mutual
theorem shN_ok : ∀ (n : Nat) (d : PyData), shN n d = true → PyData.canLay0 d = true ∧ PyData.depth d ≤ n
  | n, .none, _ => ⟨rfl, Nat.zero_le _⟩
  | n, .bool _, _ => ⟨rfl, Nat.zero_le _⟩
  | n, .int _, _ => ⟨rfl, Nat.zero_le _⟩
  | n, .str s, h => ⟨by cases n <;> exact h, Nat.zero_le _⟩
  | n + 1, .list ds, h => by
    obtain ⟨a, b⟩ := shNs_ok n ds h
    exact ⟨a, by show PyData.depthAll ds + 1 ≤ _; omega⟩
  | n + 1, .tuple ds, h => by
    obtain ⟨a, b⟩ := shNs_ok n ds h
    exact ⟨a, by show PyData.depthAll ds + 1 ≤ _; omega⟩
  | 0, .list _, h => by cases h
  | 0, .tuple _, h => by cases h
  | n, .dict _, h => by cases n <;> cases h
theorem shNs_ok : ∀ (n : Nat) (ds : List PyData), shNs n ds = true → PyData.canLayAll0 ds = true ∧ PyData.depthAll ds ≤ n
  | n, [], _ => ⟨rfl, Nat.zero_le _⟩
  | n, d :: r, h => by
    have h' := Bool.and_eq_true_iff.mp h
    obtain ⟨a, b⟩ := shN_ok n d h'.1
    obtain ⟨c, e⟩ := shNs_ok n r h'.2
    refine ⟨?_, ?_⟩
    · show (PyData.canLay0 d && PyData.canLayAll0 r) = true
      rw [a, c]; rfl
    · show max (PyData.depth d) (PyData.depthAll r) ≤ n
      omega
end
theorem sh_ok {n : Nat} {d : PyData} (h : shN n d = true) (hn : n ≤ 64) : SeqAt.shaped d = true := by
  obtain ⟨a, b⟩ := shN_ok n d h
  exact Bool.and_eq_true_iff.mpr ⟨a, decide_eq_true (by omega)⟩
theorem sh_S {n : Nat} {l : Tag} (h : Asc l) : shN n (S l) = true := by
  have := asc_ok h
  cases n <;> exact this
theorem sh_int {n : Nat} {i : Int} : shN n (.int i) = true := by cases n <;> rfl
theorem sh_non {n : Nat} : shN n .none = true := by cases n <;> rfl
theorem sh_bool {n : Nat} {b : Bool} : shN n (.bool b) = true := by cases n <;> rfl
theorem sh_tup {n : Nat} {ds : List PyData} (h : ∀ d ∈ ds, shN n d = true) : shN (n + 1) (.tuple ds) = true := shNs_of h
theorem sh_lst {n : Nat} {ds : List PyData} (h : ∀ d ∈ ds, shN n d = true) : shN (n + 1) (.list ds) = true := shNs_of h
theorem sh_mapS {n : Nat} {l : List Tag} (h : ∀ t ∈ l, Asc t) : ∀ d ∈ l.map S, shN n d = true := fun d hd => by
  obtain ⟨t, ht, rfl⟩ := List.mem_map.mp hd
  exact sh_S (h t ht)
/-! no truths within: then equal is equal -/
mutual
def nbD : PyData → Bool
  | .bool _ => false
  | .dict _ => false
  | .list ds => nbDs ds
  | .tuple ds => nbDs ds
  | _ => true
def nbDs : List PyData → Bool
  | [] => true
  | d :: r => nbD d && nbDs r
end
theorem nbDs_of : ∀ {ds : List PyData}, (∀ d ∈ ds, nbD d = true) → nbDs ds = true
  | [], _ => rfl
  | d :: r, h => Bool.and_eq_true_iff.mpr ⟨h d List.mem_cons_self, nbDs_of fun x hx => h x (List.mem_cons_of_mem _ hx)⟩
theorem nb_mapS {l : List Tag} : nbDs (l.map S) = true := nbDs_of fun d hd => by
  obtain ⟨t, ht, rfl⟩ := List.mem_map.mp hd
  rfl
mutual
theorem eqv_iff : ∀ (d e : PyData), nbD d = true → nbD e = true → (PyData.eqv d e = true ↔ d = e)
  | .none, .none, _, _ => by simp [PyData.eqv]
  | .int i, .int j, _, _ => by simp [PyData.eqv]
  | .str x, .str y, _, _ => by simp [PyData.eqv]
  | .list xs, .list ys, h1, h2 => by
    have := eqvs_iff xs ys h1 h2
    simp only [PyData.eqv, this, PyData.list.injEq]
  | .tuple xs, .tuple ys, h1, h2 => by
    have := eqvs_iff xs ys h1 h2
    simp only [PyData.eqv, this, PyData.tuple.injEq]
  | .bool _, _, h, _ => by cases h
  | .dict _, _, h, _ => by cases h
  | _, .bool _, _, h => by cases h
  | _, .dict _, _, h => by cases h
  | .none, .int _, _, _ => by simp [PyData.eqv]
  | .none, .str _, _, _ => by simp [PyData.eqv]
  | .none, .list _, _, _ => by simp [PyData.eqv]
  | .none, .tuple _, _, _ => by simp [PyData.eqv]
  | .int _, .none, _, _ => by simp [PyData.eqv]
  | .int _, .str _, _, _ => by simp [PyData.eqv]
  | .int _, .list _, _, _ => by simp [PyData.eqv]
  | .int _, .tuple _, _, _ => by simp [PyData.eqv]
  | .str _, .none, _, _ => by simp [PyData.eqv]
  | .str _, .int _, _, _ => by simp [PyData.eqv]
  | .str _, .list _, _, _ => by simp [PyData.eqv]
  | .str _, .tuple _, _, _ => by simp [PyData.eqv]
  | .list _, .none, _, _ => by simp [PyData.eqv]
  | .list _, .int _, _, _ => by simp [PyData.eqv]
  | .list _, .str _, _, _ => by simp [PyData.eqv]
  | .list _, .tuple _, _, _ => by simp [PyData.eqv]
  | .tuple _, .none, _, _ => by simp [PyData.eqv]
  | .tuple _, .int _, _, _ => by simp [PyData.eqv]
  | .tuple _, .str _, _, _ => by simp [PyData.eqv]
  | .tuple _, .list _, _, _ => by simp [PyData.eqv]
theorem eqvs_iff : ∀ (d e : List PyData), nbDs d = true → nbDs e = true → (PyData.eqvAll d e = true ↔ d = e)
  | [], [], _, _ => by simp [PyData.eqvAll]
  | [], _ :: _, _, _ => by simp [PyData.eqvAll]
  | _ :: _, [], _, _ => by simp [PyData.eqvAll]
  | x :: xs, y :: ys, h1, h2 => by
    have a := Bool.and_eq_true_iff.mp h1
    have b := Bool.and_eq_true_iff.mp h2
    have e1 := eqv_iff x y a.1 b.1
    have e2 := eqvs_iff xs ys a.2 b.2
    simp only [PyData.eqvAll, Bool.and_eq_true, e1, e2, List.cons.injEq]
end
theorem cEq_sh {d e : PyData} (h1 : SeqAt.shaped d = true) (h2 : SeqAt.shaped e = true) (n1 : nbD d = true) (n2 : nbD e = true) : ∃ b, cEq d e = some b ∧ (b = true ↔ d = e) := by
  refine ⟨PyData.eqv d e, ?_, eqv_iff d e n1 n2⟩
  unfold cEq
  split
  · rename_i m n
    have := eqv_iff (.int m) (.int n) rfl rfl
    by_cases z : m = n
    · rw [decide_eq_true z, (this.mpr (by rw [z]))]
    · rw [decide_eq_false z]
      congr 1
      cases q : PyData.eqv (.int m) (.int n) with
      | false => rfl
      | true => rw [q] at this; exact absurd (by injection this.mp rfl) z
  · rename_i x y
    have := eqv_iff (.str x) (.str y) rfl rfl
    by_cases z : cs x = cs y
    · have e : x = y := by have := congrArg (fun l => (⟨l.toArray⟩ : Str)) z; exact this
      rw [decide_eq_true z, (this.mpr (by rw [e]))]
    · rw [decide_eq_false z]
      congr 1
      cases q : PyData.eqv (.str x) (.str y) with
      | false => rfl
      | true => rw [q] at this; exact absurd (by injection this.mp rfl with e; rw [e]) z
  · rw [if_pos (by rw [h1, h2]; rfl)]
theorem cEq_t {d : PyData} (h1 : SeqAt.shaped d = true) : cEq d d = some true := by
  unfold cEq
  split
  · rw [decide_eq_true rfl]
  · rw [decide_eq_true rfl]
  · rw [if_pos (by rw [h1]; rfl), eqv_self h1]
theorem cEq_f {d e : PyData} (h1 : SeqAt.shaped d = true) (h2 : SeqAt.shaped e = true) (n1 : nbD d = true) (n2 : nbD e = true) (h : d ≠ e) : cEq d e = some false := by
  obtain ⟨b, h3, h4⟩ := cEq_sh h1 h2 n1 n2
  rw [h3]
  cases b with
  | false => rfl
  | true => exact absurd (h4.mp rfl) h
theorem cNe_t {d : PyData} (h1 : SeqAt.shaped d = true) : cNe d d = some false := by unfold cNe; rw [cEq_t h1]; rfl
theorem cNe_f {d e : PyData} (h1 : SeqAt.shaped d = true) (h2 : SeqAt.shaped e = true) (n1 : nbD d = true) (n2 : nbD e = true) (h : d ≠ e) : cNe d e = some true := by unfold cNe; rw [cEq_f h1 h2 n1 n2 h]; rfl
theorem S_inj {a b : Tag} (h : S a = S b) : a = b := by injection h with h; exact str_inj h
theorem mapS_inj {a b : List Tag} (h : a.map S = b.map S) : a = b := by
  induction a generalizing b with
  | nil => cases b with
    | nil => rfl
    | cons _ _ => cases h
  | cons x r ih => cases b with
    | nil => cases h
    | cons y s =>
      rw [List.map_cons, List.map_cons] at h
      injection h with h1 h2
      rw [S_inj h1, ih h2]
theorem cEq_tup {a b : List Tag} (h1 : ∀ t ∈ a, Asc t) (h2 : ∀ t ∈ b, Asc t) : cEq (.tuple (a.map S)) (.tuple (b.map S)) = some (decide (a = b)) := by
  by_cases z : a = b
  · rw [z, decide_eq_true rfl, cEq_t (shaped_tup h2)]
  · rw [decide_eq_false z, cEq_f (shaped_tup h1) (shaped_tup h2) nb_mapS nb_mapS fun e => z (mapS_inj (by injection e))]
theorem cEq_lst {a b : List Tag} (h1 : ∀ t ∈ a, Asc t) (h2 : ∀ t ∈ b, Asc t) : cEq (.list (a.map S)) (.list (b.map S)) = some (decide (a = b)) := by
  by_cases z : a = b
  · rw [z, decide_eq_true rfl, cEq_t (shaped_lst h2)]
  · rw [decide_eq_false z, cEq_f (shaped_lst h1) (shaped_lst h2) nb_mapS nb_mapS fun e => z (mapS_inj (by injection e))]
end K

namespace K
open PySem PySem.Spec PyProof.Rows L2 Dl Rl
/-! ### texts cut and joined -/
theorem pre_one {q c : Nat} {r : Tag} : TL.pre [q] (c :: r) = decide (c = q) := by
  unfold TL.pre
  show ([c] == [q]) = _
  by_cases h : c = q
  · rw [h, decide_eq_true rfl]; simp
  · rw [decide_eq_false h]; simpa using h
theorem spl_end {q : Nat} : ∀ (p acc : Tag), q ∉ p → TL.spl [q] 0 acc p = [acc ++ p]
  | [], acc, _ => by unfold TL.spl; rw [List.append_nil]
  | c :: r, acc, h => by
    unfold TL.spl
    rw [pre_one, if_neg (by intro z; exact h (by rw [of_decide_eq_true z]; exact List.mem_cons_self)), spl_end r (acc ++ [c]) fun z => h (List.mem_cons_of_mem _ z), List.append_assoc]
    rfl
theorem spl_app {q : Nat} {r : Tag} : ∀ (p acc : Tag), q ∉ p → TL.spl [q] 0 acc (p ++ q :: r) = (acc ++ p) :: TL.spl [q] 0 [] r
  | [], acc, _ => by
    show TL.spl [q] 0 acc (q :: r) = _
    unfold TL.spl
    rw [pre_one, if_pos (decide_eq_true rfl), List.append_nil]
    cases r <;> rfl
  | c :: p, acc, h => by
    have ih := spl_app (r := r) p (acc ++ [c]) fun z => h (List.mem_cons_of_mem _ z)
    have e : TL.spl [q] 0 acc (c :: (p ++ q :: r)) = TL.spl [q] 0 (acc ++ [c]) (p ++ q :: r) := if_neg (by rw [pre_one]; intro z; exact h (by rw [of_decide_eq_true z]; exact List.mem_cons_self))
    show TL.spl [q] 0 acc (c :: (p ++ q :: r)) = _
    rw [e, ih, List.append_assoc]
    rfl
theorem spl_join {q : Nat} : ∀ {ls : List Tag}, ls ≠ [] → (∀ t ∈ ls, q ∉ t) → TL.spl [q] 0 [] (TL.joinL [q] ls) = ls
  | [], h, _ => absurd rfl h
  | [t], _, h => spl_end t [] (h t List.mem_cons_self)
  | t :: u :: r, _, h => by
    show TL.spl [q] 0 [] (t ++ ([q] ++ TL.joinL [q] (u :: r))) = _
    rw [show t ++ ([q] ++ TL.joinL [q] (u :: r)) = t ++ q :: TL.joinL [q] (u :: r) from rfl, spl_app t [] (h t List.mem_cons_self), spl_join (by simp) fun x hx => h x (List.mem_cons_of_mem _ hx)]
    rfl
theorem spl_lines {q : Nat} : ∀ {ls : List Tag}, (∀ t ∈ ls, q ∉ t) → TL.spl [q] 0 [] (ls.map fun t => t ++ [q]).flatten = ls ++ [[]]
  | [], _ => rfl
  | t :: r, h => by
    rw [List.map_cons, List.flatten_cons, List.append_assoc, show ([q] ++ (r.map fun t => t ++ [q]).flatten) = q :: (r.map fun t => t ++ [q]).flatten from rfl, spl_app t [] (h t List.mem_cons_self), spl_lines fun x hx => h x (List.mem_cons_of_mem _ hx)]
    rfl
theorem joinL_snoc {a t : Tag} : ∀ l : List Tag, TL.joinL a (l ++ [t]) = if l = [] then t else TL.joinL a l ++ a ++ t
  | [] => rfl
  | [x] => by rw [if_neg (by simp)]; show x ++ (a ++ t) = x ++ a ++ t; rw [List.append_assoc]
  | x :: y :: r => by
    rw [if_neg (by simp)]
    show x ++ (a ++ TL.joinL a ((y :: r) ++ [t])) = x ++ (a ++ TL.joinL a (y :: r)) ++ a ++ t
    rw [joinL_snoc (y :: r), if_neg (by simp)]
    simp only [List.append_assoc]
theorem joinL_len {a : Tag} : ∀ l : List Tag, (TL.joinL a l).length ≤ (l.map List.length).sum + l.length * a.length
  | [] => Nat.zero_le _
  | [x] => by show x.length ≤ x.length + 0 + 1 * a.length; omega
  | x :: y :: r => by
    have := joinL_len (a := a) (y :: r)
    show (x ++ (a ++ TL.joinL a (y :: r))).length ≤ x.length + ((y :: r).map List.length).sum + ((y :: r).length + 1) * a.length
    rw [List.length_append, List.length_append, Nat.add_mul, Nat.one_mul]
    omega
theorem sum_le {m : Nat} : ∀ (l : List Tag), (∀ t ∈ l, t.length ≤ m) → (l.map List.length).sum ≤ l.length * m
  | [], _ => Nat.zero_le _
  | x :: r, h => by
    have h1 := h x List.mem_cons_self
    have h2 := sum_le r fun t ht => h t (List.mem_cons_of_mem _ ht)
    show x.length + (r.map List.length).sum ≤ (r.length + 1) * m
    rw [Nat.add_mul, Nat.one_mul]
    omega
/-! ### the text of a row -/
def sT : Option Tag → Tag
  | none => [46]
  | some s => if s = [] then [45] else s
def bT (b : Tag) : Tag := if b = [] then [45] else b
def lineT (r : Row) : Tag := bT r.1 ++ [32] ++ sT r.2
def rowT (r : Row) : Tag := lineT r ++ [10]
def rowsT (rs : List Row) : Tag := (rs.map rowT).flatten
/-- a row as walks tell them -/
structure RowOk (n : Nat) (r : Row) : Prop where
  b : ∀ q ∈ r.1, q = 48 ∨ q = 49
  s : ∀ s, r.2 = some s → ∀ q ∈ s, q = 48 ∨ q = 49 ∨ q = 120
  bl : r.1.length ≤ n
  sl : ∀ s, r.2 = some s → s.length ≤ n
theorem hear_signs {n : Nat} {ls : List Tag} (hL : ∀ t ∈ ls, IsTag n t) {b s : Tag} (h : hearO ls b = some s) : ∀ q ∈ s, q = 48 ∨ q = 49 ∨ q = 120 := by
  have hl : ∀ t ∈ ls, t.length = n := fun t h => (hL t h).1
  have hlen := hear_len hl h
  unfold hearO at h
  rcases he : amF b ls with _ | ⟨t, r⟩
  · rw [he] at h; cases h
  · rw [he] at h
    cases h
    intro q hq
    obtain ⟨i, hi, rfl⟩ := List.mem_map.mp hq
    have hi := List.mem_range.mp hi
    unfold soundF blurF
    split
    · have ht := hL t (am_mem (b := b) (by rw [he]; exact List.mem_cons_self)).1
      have hlt : b.length + i < t.length := by omega
      rw [List.getD_eq_getElem?_getD, List.getElem?_eq_getElem hlt]
      rcases ht.2 _ (List.getElem_mem hlt) with z | z
      · exact .inl z
      · exact .inr (.inl z)
    · exact .inr (.inr rfl)
theorem head_signs {s : Tag} (h : ∀ q ∈ s, q = 48 ∨ q = 49 ∨ q = 120) : ∀ q ∈ headX s, q = 48 ∨ q = 49 := fun q hq => by
  have tw : ∀ l : Tag, ∀ q ∈ headX l, q ∈ l ∧ q ≠ 120 := by
    intro l
    induction l with
    | nil => intro q h; cases h
    | cons c r ih =>
      intro q hq
      unfold headX at hq
      rw [List.takeWhile_cons] at hq
      split at hq
      · rename_i z
        rcases List.mem_cons.mp hq with e | e
        · rw [e]; exact ⟨List.mem_cons_self, by simpa using z⟩
        · obtain ⟨a, b⟩ := ih q e
          exact ⟨List.mem_cons_of_mem _ a, b⟩
      · cases hq
  obtain ⟨h1, h3⟩ := tw s q hq
  have h2 := h q h1
  rcases h2 with z | z | z
  · exact .inl z
  · exact .inr z
  · exact absurd z h3
section
variable {ls : List Tag} {w : Way} {n : Nat}
theorem row_ok (ht : ∀ t ∈ ls, IsTag n t) : ∀ f (b : Tag), b.length ≤ n → (∀ q ∈ b, q = 48 ∨ q = 49) → (∀ r ∈ wk ls w f b, RowOk n r) ∧ ∀ s, Fit ls b s → (∀ t, s = some t → ∀ q ∈ t, q = 48 ∨ q = 49 ∨ q = 120) → ∀ r ∈ bh ls w f b s, RowOk n r
  | 0, b, _, _ => ⟨fun r h => (by cases h), fun s _ _ r h => (by cases h)⟩
  | f + 1, b, hb, hq => by
    have hl : ∀ t ∈ ls, t.length = n := fun t h => (ht t h).1
    refine ⟨fun r hr => ?_, fun s hs hss r hr => ?_⟩
    · rcases List.mem_cons.mp hr with z | z
      · rw [z]
        exact ⟨hq, fun s hs => hear_signs ht hs, hb, fun s hs => by have := hear_len hl hs; show s.length ≤ n; omega⟩
      · exact (row_ok ht f b hb hq).2 _ fit_hear (fun t h => hear_signs ht h) r z
    · rcases s with _ | s
      · cases hr
      · unfold bh at hr
        by_cases hx : 120 ∈ s
        · rw [if_pos hx] at hr
          obtain ⟨s0, q1, q2, q3⟩ := hs s rfl hx
          have e0 := hear_len hl q1
          have hg := go_len (w := w) (b := b) hx
          have lq : ∀ q : Nat, (goT w b s ++ [q]).length ≤ n := fun q => by rw [List.length_append, List.length_singleton]; omega
          have gq : ∀ c : Nat, (c = 48 ∨ c = 49) → ∀ q ∈ goT w b s ++ [c], q = 48 ∨ q = 49 := fun c hc q hq' => by
            rcases List.mem_append.mp hq' with z | z
            · unfold goT at z
              split at z
              · rcases List.mem_append.mp z with z | z
                · exact hq q z
                · exact head_signs (hss s rfl) q z
              · exact hq q z
            · rcases List.mem_cons.mp z with z | z
              · rw [z]; exact hc
              · cases z
          rcases List.mem_append.mp hr with z | z
          · exact (row_ok ht f _ (lq 48) (gq 48 (.inl rfl))).1 r z
          · by_cases hk : w = .skip ∧ hearO ls (goT w b s ++ [48]) = none
            · rw [if_pos hk] at z
              have eb : goT w b s = b := by unfold goT; rw [hk.1]; rfl
              exact (row_ok ht f _ (lq 49) (gq 49 (.inr rfl))).2 _ (by rw [eb] at hk ⊢; exact fit_x ht q1 q2 hk.2) (fun t h q hq' => by cases h; rcases List.mem_cons.mp hq' with z | z; exact .inr (.inr z); cases z) r z
            · rw [if_neg hk] at z
              exact (row_ok ht f _ (lq 49) (gq 49 (.inr rfl))).1 r z
        · rw [if_neg hx] at hr
          cases hr
theorem wF_ok (ht : ∀ t ∈ ls, IsTag n t) : ∀ r ∈ wF ls w n [], RowOk n r := (row_ok ht _ [] (Nat.zero_le _) (fun q h => by cases h)).1
end
theorem bT_len (b : Tag) : (bT b).length ≤ b.length + 1 := by unfold bT; split <;> simp
theorem sT_len {n : Nat} {s : Option Tag} (h : ∀ t, s = some t → t.length ≤ n) : (sT s).length ≤ n + 1 := by
  cases s with
  | none => show 1 ≤ _; omega
  | some t =>
    have := h t rfl
    show (if t = [] then [45] else t).length ≤ _
    split
    · show 1 ≤ _; omega
    · omega
theorem row_len {n : Nat} {r : Row} (h : RowOk n r) : (rowT r).length ≤ 2 * n + 4 := by
  have h1 := bT_len r.1
  have h2 := sT_len h.sl
  have := h.bl
  unfold rowT lineT
  simp only [List.length_append, List.length_cons, List.length_nil]
  omega
theorem bT_signs {b : Tag} (h : ∀ q ∈ b, q = 48 ∨ q = 49) : ∀ q ∈ bT b, q = 48 ∨ q = 49 ∨ q = 45 := fun q hq => by
  unfold bT at hq
  split at hq
  · simp at hq; exact .inr (.inr hq)
  · rcases h q hq with z | z
    · exact .inl z
    · exact .inr (.inl z)
theorem sT_signs {s : Option Tag} (h : ∀ t, s = some t → ∀ q ∈ t, q = 48 ∨ q = 49 ∨ q = 120) : ∀ q ∈ sT s, q = 48 ∨ q = 49 ∨ q = 120 ∨ q = 45 ∨ q = 46 := fun q hq => by
  cases s with
  | none => simp [sT] at hq; exact .inr (.inr (.inr (.inr hq)))
  | some t =>
    have hq : q ∈ (if t = [] then [45] else t) := hq
    split at hq
    · simp at hq; exact .inr (.inr (.inr (.inl hq)))
    · rcases h t rfl q hq with z | z | z
      · exact .inl z
      · exact .inr (.inl z)
      · exact .inr (.inr (.inl z))
theorem line_no {n : Nat} {r : Row} (h : RowOk n r) : 10 ∉ lineT r := fun z => by
  unfold lineT at z
  rcases List.mem_append.mp z with z | z
  · rcases List.mem_append.mp z with z | z
    · have := bT_signs h.b 10 z; omega
    · simp at z
  · have := sT_signs h.s 10 z; omega
theorem line_two {n : Nat} {r : Row} (h : RowOk n r) : TL.spl [32] 0 [] (lineT r) = [bT r.1, sT r.2] := by
  unfold lineT
  rw [List.append_assoc, show bT r.1 ++ ([32] ++ sT r.2) = bT r.1 ++ 32 :: sT r.2 from rfl, spl_app (bT r.1) [] (fun z => by have := bT_signs h.b 32 z; omega), spl_end (sT r.2) [] (fun z => by have := sT_signs h.s 32 z; omega)]
  rfl
theorem rows_lines (rs : List Row) : rowsT rs = ((rs.map lineT).map fun t => t ++ [10]).flatten := by
  unfold rowsT
  rw [List.map_map]
  rfl
end K

namespace K
open PySem PySem.Spec PyProof.Rows L2 Dl Rl
section
variable {ls : List Tag} {n : Nat}
/-! ### shortest beginnings -/
def shK (n : Nat) (ls : List Tag) (t : Tag) : Nat := (List.range (n + 1)).findIdx fun m => decide ((amF (t.take m) ls).length ≤ 1)
def shF (n : Nat) (ls : List Tag) (t : Tag) : Tag := t.take (shK n ls t)
theorem am_self (hl : ∀ t ∈ ls, t.length = n) (hn : ls.Nodup) {t : Tag} (h : t ∈ ls) : amF t ls = [t] := by
  refine nodup_one (List.Pairwise.filter _ hn) (fun z => ?_) fun u hu => ?_
  · have : t ∈ amF t ls := List.mem_filter.mpr ⟨h, decide_eq_true (List.take_length)⟩
    rw [show amF t ls = [] from z] at this
    cases this
  · have e := am_mem hu
    have h2 := e.2
    rw [hl t h, ← hl u e.1, List.take_length] at h2
    exact h2
theorem shK_ok (hl : ∀ t ∈ ls, t.length = n) (hn : ls.Nodup) {t : Tag} (h : t ∈ ls) : shK n ls t ≤ n ∧ (amF (t.take (shK n ls t)) ls).length ≤ 1 ∧ ∀ j, j < shK n ls t → 1 < (amF (t.take j) ls).length := by
  have ex : ∃ m ∈ List.range (n + 1), decide ((amF (t.take m) ls).length ≤ 1) = true := ⟨n, List.mem_range.mpr (by omega), by
    rw [← hl t h, List.take_length, am_self hl hn h]; rfl⟩
  have hlt : shK n ls t < (List.range (n + 1)).length := List.findIdx_lt_length_of_exists ex
  have hlt2 := hlt
  rw [List.length_range] at hlt2
  refine ⟨by omega, ?_, fun j hj => ?_⟩
  · have := List.findIdx_getElem (w := hlt)
    have e2 : (List.range (n + 1))[shK n ls t]'hlt = shK n ls t := List.getElem_range hlt
    have h3 : decide ((amF (t.take ((List.range (n + 1))[shK n ls t]'hlt)) ls).length ≤ 1) = true := this
    rw [e2] at h3
    exact of_decide_eq_true h3
  · have := List.not_of_lt_findIdx hj
    rw [List.getElem_range] at this
    have := of_decide_eq_false this
    omega
theorem sh_uniq (hl : ∀ t ∈ ls, t.length = n) (hn : ls.Nodup) {t : Tag} (h : t ∈ ls) {m : Nat} (h1 : (amF (t.take m) ls).length ≤ 1) (h2 : ∀ j, j < m → 1 < (amF (t.take j) ls).length) : m = shK n ls t := by
  obtain ⟨_, q1, q2⟩ := shK_ok hl hn h
  rcases Nat.lt_trichotomy m (shK n ls t) with z | z | z
  · have := q2 m z; omega
  · exact z
  · have := h2 _ z; omega
theorem shF_len (hl : ∀ t ∈ ls, t.length = n) (hn : ls.Nodup) {t : Tag} (h : t ∈ ls) : (shF n ls t).length = shK n ls t := by
  have := (shK_ok hl hn h).1
  unfold shF
  rw [List.length_take, hl t h]
  omega
theorem sh_am (hl : ∀ t ∈ ls, t.length = n) (hn : ls.Nodup) {t : Tag} (h : t ∈ ls) : amF (shF n ls t) ls = [t] := by
  have h1 := (shK_ok hl hn h).2.1
  have h2 : t ∈ amF (shF n ls t) ls := by
    refine List.mem_filter.mpr ⟨h, decide_eq_true ?_⟩
    rw [shF_len hl hn h]
    rfl
  unfold shF at h2 ⊢
  rcases e : amF (t.take (shK n ls t)) ls with _ | ⟨x, r⟩
  · rw [e] at h2; cases h2
  · rw [e] at h1 h2
    rcases r with _ | ⟨y, r⟩
    · rw [List.mem_singleton.mp h2]
    · simp at h1
theorem sh_pre (hl : ∀ t ∈ ls, t.length = n) (hn : ls.Nodup) {t : Tag} (h : t ∈ ls) : t.take (shF n ls t).length = shF n ls t := by rw [shF_len hl hn h]; rfl
/-- who begins as the shortest beginning of t is t -/
theorem sh_only (hl : ∀ t ∈ ls, t.length = n) (hn : ls.Nodup) {t u : Tag} (h : t ∈ ls) (hu : u ∈ ls) (e : u.take (shF n ls t).length = shF n ls t) : u = t := by
  have : u ∈ amF (shF n ls t) ls := List.mem_filter.mpr ⟨hu, decide_eq_true e⟩
  rw [sh_am hl hn h] at this
  exact List.mem_singleton.mp this
theorem map_drop (t : Tag) (k : Nat) : (List.range (t.length - k)).map (fun i => t.getD (k + i) 0) = t.drop k := by
  refine List.ext_getElem (by rw [List.length_map, List.length_range, List.length_drop]) fun i h1 h2 => ?_
  rw [List.getElem_map, List.getElem_range, List.getElem_drop, List.getD_eq_getElem?_getD, List.getElem?_eq_getElem]
  rfl
theorem hear_am {b t : Tag} (h : amF b ls = [t]) : hearO ls b = some (t.drop b.length) := by
  unfold hearO
  rw [h]
  show some ((List.range (t.length - b.length)).map (soundF b t [])) = _
  rw [← map_drop]
  rfl
theorem hear_two {b : Tag} {x y : Tag} {r : List Tag} {i : Nat} (h : amF b ls = x :: y :: r) (hi : b.length + i < x.length) (hd : x.getD (b.length + i) 0 ≠ y.getD (b.length + i) 0) : ∃ s, hearO ls b = some s ∧ 120 ∈ s := by
  refine ⟨_, by unfold hearO; rw [h], ?_⟩
  refine List.mem_map.mpr ⟨i, List.mem_range.mpr (by omega), ?_⟩
  unfold soundF blurF
  refine if_neg fun z => hd ?_
  rw [List.map_cons, List.all_cons, Bool.and_eq_true] at z
  exact (of_decide_eq_true z.1).symm
theorem sub_one {α : Type} {l : List α} {a : α} (h : l.Sublist [a]) : l = [] ∨ l = [a] := by
  cases h with
  | cons _ h => exact .inl (List.sublist_nil.mp h)
  | cons_cons _ h => exact .inr (by rw [List.sublist_nil.mp h])
theorem am_sub {b : Tag} {l2 : List Tag} (h : l2.Sublist ls) : (amF b l2).Sublist (amF b ls) := h.filter _
/-! ### the marks walk asks just the shortest beginnings -/
def loneR (r : Row) : Option Tag := match r.2 with
  | none => none
  | some s => if 120 ∈ s then none else some r.1
def loneF (rs : List Row) : List Tag := rs.filterMap loneR
theorem lone_app (a b : List Row) : loneF (a ++ b) = loneF a ++ loneF b := List.filterMap_append
/-- a beginning that the walk may ask: it is all, or its father has two tags -/
def Kid (ls : List Tag) (b : Tag) : Prop := b = [] ∨ 1 < (amF b.dropLast ls).length
theorem two_of_x (hl : ∀ t ∈ ls, t.length = n) {b s : Tag} (h : hearO ls b = some s) (hx : 120 ∈ s) (ht : ∀ t ∈ ls, IsTag n t) : 1 < (amF b ls).length := by
  rcases e : amF b ls with _ | ⟨x, r⟩
  · unfold hearO at h; rw [e] at h; cases h
  rcases r with _ | ⟨y, r⟩
  · rw [hear_am e] at h
    cases h
    have hm := am_mem (b := b) (ls := ls) (t := x) (by rw [e]; exact List.mem_cons_self)
    have := (ht x hm.1).2 120 (List.mem_of_mem_drop hx)
    omega
  · simp
theorem am_pre_len {b c : Tag} (h : b <+: c) : (amF c ls).length ≤ (amF b ls).length := by
  unfold amF
  rw [← List.countP_eq_length_filter, ← List.countP_eq_length_filter]
  refine List.countP_mono_left fun t _ ht => ?_
  have e := of_decide_eq_true ht
  obtain ⟨d, rfl⟩ := h
  refine decide_eq_true ?_
  have := congrArg (List.take b.length) e
  rw [List.take_take, List.length_append, Nat.min_eq_left (by omega), List.take_left' rfl] at this
  exact this
theorem kid_sh (hl : ∀ t ∈ ls, t.length = n) (hn : ls.Nodup) {b t : Tag} (hk : Kid ls b) (h : amF b ls = [t]) : shF n ls t = b := by
  have hm := am_mem (b := b) (ls := ls) (t := t) (by rw [h]; exact List.mem_cons_self)
  have e : b.length = shK n ls t := by
    refine sh_uniq hl hn hm.1 ?_ fun j hj => ?_
    · rw [hm.2, h]; exact Nat.le_refl _
    · rcases hk with z | z
      · rw [z] at hj; cases hj
      · refine Nat.lt_of_lt_of_le z (am_pre_len ?_)
        have : b.dropLast = t.take (b.length - 1) := by
          conv => lhs; rw [← hm.2]
          rw [List.dropLast_eq_take, List.take_take, List.length_take]
          congr 1
          have := congrArg List.length hm.2
          rw [List.length_take] at this
          omega
        rw [this]
        exact List.take_prefix_take_left (by omega)
  unfold shF
  rw [← e]
  exact hm.2
theorem lone_wF (hL : IsLot n ls) : ∀ d (b : Tag), n - b.length ≤ d → b.length ≤ n → Kid ls b → loneF (wF ls .marks n b) = (amF b ls).map (shF n ls)
  | d, b, hd, hb, hk => by
    have ht := hL.tg
    have hl : ∀ t ∈ ls, t.length = n := fun t h => (ht t h).1
    rw [wF_eq]
    show loneF ([(b, hearO ls b)] ++ bF ls .marks n b (hearO ls b)) = _
    rw [lone_app]
    rcases hs : hearO ls b with _ | s
    · rw [bF_none, am_none hs]
      rfl
    · by_cases hx : 120 ∈ s
      · have hg := go_len (w := .marks) (b := b) hx
        have e0 := hear_len hl hs
        have lq : ∀ q : Nat, (goT .marks b s ++ [q]).length = (goT .marks b s).length + 1 := fun q => by rw [List.length_append, List.length_singleton]
        have ego : amF (goT .marks b s) ls = amF b ls := am_head hl hs hx
        have k2 : ∀ q : Nat, Kid ls (goT .marks b s ++ [q]) := fun q => .inr (by rw [List.dropLast_concat, ego]; exact two_of_x hl hs hx ht)
        cases d with
        | zero => omega
        | succ d =>
          have A1 := lone_wF hL d (goT .marks b s ++ [48]) (by rw [lq]; omega) (by rw [lq]; omega) (k2 48)
          have A2 := lone_wF hL d (goT .marks b s ++ [49]) (by rw [lq]; omega) (by rw [lq]; omega) (k2 49)
          rw [bF_x ht (by rw [← hs]; exact fit_hear) hx, lone_app, A1, if_neg (fun z => by cases z.1), A2, ← List.map_append, am_two hL (by omega), ego]
          have e : loneF [(b, some s)] = [] := by
            show List.filterMap loneR [(b, some s)] = []
            rw [List.filterMap_cons_none (show loneR (b, some s) = none from if_pos hx)]
            rfl
          rw [e, List.nil_append]
      · rw [bF_nox hx, am_one hl (lot_nodup hL) hs hx]
        have e : loneF [(b, some s)] = [b] := by
          show List.filterMap loneR [(b, some s)] = [b]
          rw [List.filterMap_cons_some (show loneR (b, some s) = some b from if_neg hx)]
          rfl
        rw [e]
        show [b] ++ [] = [shF n ls (b ++ s)]
        rw [kid_sh hl (lot_nodup hL) hk (am_one hl (lot_nodup hL) hs hx)]
        rfl
theorem lone_all (hL : IsLot n ls) : loneF (wF ls .marks n []) = ls.map (shF n ls) := by
  rw [lone_wF hL n [] (by rw [List.length_nil]; omega) (Nat.zero_le _) (.inl rfl), am_all]
/-! ### checked -/
def wordF (b t : Tag) (s : Option Tag) : Tag := match s with
  | none => [103, 111, 110, 101]
  | some s => if 120 ∈ s then [109, 111, 114, 101] else if b ++ s = t then [116, 104, 101, 114, 101] else [111, 116, 104, 101, 114]
def chkF (n : Nat) (lot known : List Tag) : List (Tag × Tag) := known.map fun t => (t, wordF (shF n known t) t (hearO lot (shF n known t)))
def chkD (p : Tag × Tag) : PyData := .tuple [S p.1, S p.2]
theorem no_x {t : Tag} (h : IsTag n t) (k : Nat) : 120 ∉ t.drop k := fun z => by
  have := h.2 120 (List.mem_of_mem_drop z)
  omega
theorem word_one {b t : Tag} {l2 : List Tag} (ht : IsTag n t) (h : amF b l2 = [t]) : wordF b t (hearO l2 b) = [116, 104, 101, 114, 101] := by
  rw [hear_am h]
  have hm := am_mem (b := b) (ls := l2) (t := t) (by rw [h]; exact List.mem_cons_self)
  show (if 120 ∈ t.drop b.length then _ else _) = _
  rw [if_neg (no_x ht _), if_pos]
  conv => lhs; rw [← hm.2]
  rw [List.length_take]
  conv => rhs; rw [← List.take_append_drop b.length t]
  congr 2
  have := congrArg List.length hm.2
  rw [List.length_take] at this
  omega
theorem word_none {b t : Tag} {l2 : List Tag} (h : amF b l2 = []) : wordF b t (hearO l2 b) = [103, 111, 110, 101] := by
  unfold hearO
  rw [h]
  rfl
def strF (n : Nat) (lot known : List Tag) : List Tag := lot.filter fun t => !(known.any fun u => decide (t.take (shF n known u).length = shF n known u))
theorem str_none (hl : ∀ t ∈ ls, t.length = n) (hn : ls.Nodup) : strF n ls ls = [] := by
  refine List.filter_eq_nil_iff.mpr fun t ht z => ?_
  rw [Bool.not_eq_true', ] at z
  have := List.any_eq_false.mp z t ht
  exact this (decide_eq_true (sh_pre hl hn ht))
/-- a part of the known ones -/
theorem chk_part (hL : IsLot n ls) {l2 : List Tag} (h : l2.Sublist ls) : chkF n l2 ls = ls.map fun t => (t, if t ∈ l2 then [116, 104, 101, 114, 101] else [103, 111, 110, 101]) := by
  have hl : ∀ t ∈ ls, t.length = n := fun t h => (hL.tg t h).1
  refine List.map_congr_left fun t ht => ?_
  congr 1
  have hs := am_sub (b := shF n ls t) h
  rw [sh_am hl (lot_nodup hL) ht] at hs
  by_cases e : t ∈ l2
  · rw [if_pos e]
    refine word_one (hL.tg t ht) ?_
    have hm : t ∈ amF (shF n ls t) l2 := List.mem_filter.mpr ⟨e, decide_eq_true (sh_pre hl (lot_nodup hL) ht)⟩
    rcases sub_one hs with z | z
    · rw [z] at hm; cases hm
    · exact z
  · rw [if_neg e]
    refine word_none ?_
    rcases sub_one hs with z | z
    · exact z
    · have hm : t ∈ amF (shF n ls t) l2 := by rw [z]; exact List.mem_cons_self
      exact absurd (am_mem hm).1 e
/-! ### one more -/
def preB (n : Nat) (ls : List Tag) (m t : Tag) : Bool := decide (m.take (shF n ls t).length = shF n ls t)
theorem pre_le (hl : ∀ t ∈ ls, t.length = n) (hn : ls.Nodup) {t u m : Tag} (ht : t ∈ ls) (hu : u ∈ ls) (h1 : m.take (shF n ls t).length = shF n ls t) (h2 : m.take (shF n ls u).length = shF n ls u) (hle : (shF n ls t).length ≤ (shF n ls u).length) : u = t := by
  refine sh_only hl hn ht hu ?_
  have e := congrArg (List.take (shF n ls t).length) (sh_pre hl hn hu)
  rw [List.take_take, Nat.min_eq_left hle] at e
  rw [e, ← h2, List.take_take, Nat.min_eq_left hle, h1]
theorem pre_uniq (hl : ∀ t ∈ ls, t.length = n) (hn : ls.Nodup) {t u m : Tag} (ht : t ∈ ls) (hu : u ∈ ls) (h1 : preB n ls m t = true) (h2 : preB n ls m u = true) : u = t := by
  have h1 := of_decide_eq_true h1
  have h2 := of_decide_eq_true h2
  rcases Nat.le_total (shF n ls t).length (shF n ls u).length with z | z
  · exact pre_le hl hn ht hu h1 h2 z
  · exact (pre_le hl hn hu ht h2 h1 z).symm
theorem differ {x y : Tag} {k : Nat} (hx : x.length = n) (hy : y.length = n) (he : x.take k = y.take k) (hne : x ≠ y) : ∃ i, k + i < n ∧ x.getD (k + i) 0 ≠ y.getD (k + i) 0 := by
  refine Classical.byContradiction fun z => hne ?_
  rw [← List.take_append_drop k x, ← List.take_append_drop k y, he, ← map_drop, ← map_drop, hx, hy]
  congr 1
  refine List.map_congr_left fun i hi => ?_
  have := List.mem_range.mp hi
  exact Classical.byContradiction fun q => z ⟨i, by omega, q⟩
theorem perm_two {α : Type} {l : List α} {a b : α} (h : l.Perm [a, b]) : l = [a, b] ∨ l = [b, a] := by
  rcases l with _ | ⟨x, _ | ⟨y, _ | ⟨z, r⟩⟩⟩
  · have := h.length_eq; simp at this
  · have := h.length_eq; simp at this
  · have hx := h.mem_iff.mp (List.mem_cons_self (a := x))
    rcases List.mem_cons.mp hx with e | e
    · subst e
      have := List.perm_singleton.mp (List.Perm.cons_inv h)
      exact .inl (by rw [this])
    · have e := List.mem_singleton.mp e
      subst e
      have := List.perm_singleton.mp (List.Perm.cons_inv (h.trans (List.Perm.swap ..)))
      exact .inr (by rw [this])
  · have := h.length_eq; simp at this
theorem word_more {b t : Tag} {s : Option Tag} (h : ∃ s', s = some s' ∧ 120 ∈ s') : wordF b t s = [109, 111, 114, 101] := by
  obtain ⟨s', rfl, hx⟩ := h
  exact if_pos hx
theorem chk_more (hL : IsLot n ls) {lot : List Tag} {m : Tag} (hm : IsTag n m) (hp : lot.Perm (m :: ls)) (hne : m ∉ ls) : chkF n lot ls = ls.map fun t => (t, if preB n ls m t = true then [109, 111, 114, 101] else [116, 104, 101, 114, 101]) := by
  have hl : ∀ t ∈ ls, t.length = n := fun t h => (hL.tg t h).1
  have hn := lot_nodup hL
  refine List.map_congr_left fun t ht => ?_
  congr 1
  have hq : (amF (shF n ls t) lot).Perm (amF (shF n ls t) (m :: ls)) := hp.filter _
  have htm : t ≠ m := fun e => hne (e ▸ ht)
  by_cases e : preB n ls m t = true
  · rw [if_pos e]
    have e' := of_decide_eq_true e
    have e2 : amF (shF n ls t) (m :: ls) = [m, t] := by
      unfold amF
      rw [List.filter_cons_of_pos (by exact e)]
      show m :: amF (shF n ls t) ls = _
      rw [sh_am hl hn ht]
    rw [e2] at hq
    have hpt := sh_pre hl hn ht
    refine word_more ?_
    rcases perm_two hq with z | z
    · obtain ⟨i, g1, g2⟩ := differ hm.1 (hl t ht) (e'.trans hpt.symm) (fun q => htm q.symm)
      exact hear_two z (by rw [hm.1]; exact g1) g2
    · obtain ⟨i, g1, g2⟩ := differ (hl t ht) hm.1 (hpt.trans e'.symm) htm
      exact hear_two z (by rw [hl t ht]; exact g1) g2
  · rw [if_neg e]
    have e2 : amF (shF n ls t) (m :: ls) = [t] := by
      unfold amF
      rw [List.filter_cons_of_neg (by exact e)]
      exact sh_am hl hn ht
    rw [e2] at hq
    exact word_one (hL.tg t ht) (List.perm_singleton.mp hq)
theorem str_more (hL : IsLot n ls) {lot : List Tag} {m : Tag} (hp : lot.Perm (m :: ls)) : strF n lot ls = if ls.any (preB n ls m) = true then [] else [m] := by
  have hl : ∀ t ∈ ls, t.length = n := fun t h => (hL.tg t h).1
  have hq : (strF n lot ls).Perm (strF n (m :: ls) ls) := hp.filter _
  have e0 := str_none hl (lot_nodup hL)
  by_cases e : ls.any (preB n ls m) = true
  · rw [if_pos e]
    have e2 : strF n (m :: ls) ls = [] := by
      unfold strF
      rw [List.filter_cons_of_neg (by show ¬ (!(ls.any (preB n ls m))) = true; rw [e]; exact Bool.false_ne_true)]
      exact e0
    rw [e2] at hq
    exact List.perm_nil.mp hq
  · rw [if_neg e]
    have e2 : strF n (m :: ls) ls = [m] := by
      unfold strF
      rw [List.filter_cons_of_pos (by show (!(ls.any (preB n ls m))) = true; rw [eq_false_of_ne_true e]; rfl)]
      show m :: strF n ls ls = [m]
      rw [e0]
    rw [e2] at hq
    exact List.perm_singleton.mp hq
/-- the rows that are not there -/
theorem odd_one (hL : IsLot n ls) {m : Tag} : (ls.filter (preB n ls m)) = [] ∧ ls.any (preB n ls m) = false ∨ (∃ t, ls.filter (preB n ls m) = [t]) ∧ ls.any (preB n ls m) = true := by
  have hl : ∀ t ∈ ls, t.length = n := fun t h => (hL.tg t h).1
  have hn := lot_nodup hL
  by_cases e : ls.any (preB n ls m) = true
  · refine .inr ⟨?_, e⟩
    obtain ⟨t, h1, h2⟩ := List.any_eq_true.mp e
    refine ⟨t, nodup_one (List.Pairwise.filter _ hn) (fun z => ?_) fun u hu => ?_⟩
    · have : t ∈ ls.filter (preB n ls m) := List.mem_filter.mpr ⟨h1, h2⟩
      rw [z] at this
      cases this
    · have := List.mem_filter.mp hu
      exact pre_uniq hl hn h1 this.1 h2 this.2
  · have e := eq_false_of_ne_true e
    refine .inl ⟨List.filter_eq_nil_iff.mpr fun t ht z => ?_, e⟩
    exact absurd z (List.any_eq_false.mp e t ht)
end
section
open PySem.W
theorem le_S (a b : Tag) : dataLe false id (S a) (S b) = leS a b := by
  show (!(PyProof.Rows.lexLt itemOrd [.inr b] [.inr a])) = !decide (b < a)
  congr 1
  rw [lex_cons]
  show (strKind.blt b a || (!strKind.blt a b && false)) = _
  rw [Bool.and_false, Bool.or_false]
theorem sortD_S (l : List Tag) : sortD (l.map S) = (sortS l).map S := by
  unfold sortD sortS
  rw [List.map_mergeSort (r := leS) (s := dataLe false id) (f := S) (fun a _ b _ => (le_S a b).symm)]
theorem okSort_S {l : List Tag} (h : ∀ t ∈ l, Asc t) : okSort (l.map S) = true := by
  unfold okSort
  rw [(sh_strs l h).1]
  simp only [Bool.and_true, Bool.and_eq_true, Bool.or_eq_true, List.all_eq_true, List.mem_map, forall_exists_index, and_imp, forall_apply_eq_imp_iff₂]
  refine ⟨⟨fun a _ b _ => rfl, .inr fun a _ => rfl⟩, fun a _ => ?_⟩
  exact decide_eq_true (Nat.zero_le _)
theorem sorted_S {l : List Tag} (h : ∀ t ∈ l, Asc t) : fSorted [.tuple (l.map S)] = some (.list ((sortS l).map S)) := by
  show (if okSort (l.map S) = true then some (PyData.list (sortD (l.map S))) else none) = _
  rw [if_pos (okSort_S h), sortD_S]
theorem sorted_Sl {l : List Tag} (h : ∀ t ∈ l, Asc t) : fSorted [.list (l.map S)] = some (.list ((sortS l).map S)) := by
  show (if okSort (l.map S) = true then some (PyData.list (sortD (l.map S))) else none) = _
  rw [if_pos (okSort_S h), sortD_S]
/-- a sorted list of other tags is a lot -/
theorem sort_lot {n : Nat} {l : List Tag} (hd : l.Nodup) (ht : ∀ t ∈ l, IsTag n t) : IsLot n (sortS l) := by
  have hp := sortS_perm l
  refine ⟨fun t h => ht t (hp.mem_iff.mp h), ?_⟩
  refine List.Pairwise.imp₂ (fun a b h1 h2 => ?_) (sortS_pw l) (hp.symm.nodup_iff.mp hd)
  rcases Classical.em (a < b) with z | z
  · exact z
  · exact absurd (leS_anti a b h1 (by unfold leS; rw [decide_eq_false z]; rfl)) h2
/-- xs[::1] -/
theorem step_one {α : Type} (xs : List α) : stepPick xs none none 1 = xs := by
  unfold stepPick
  refine if_pos ?_
  have e1 : stA none none 1 xs.length = 0 := rfl
  have e2 : stN none none 1 xs.length = xs.length := by
    show (if (1 : Int) > 0 then (if (0 : Int) < (xs.length : Int) then ((xs.length : Int) - 0 - 1) / 1 + 1 else 0) else _).toNat = _
    rw [if_pos (by decide), Int.ediv_one]
    split <;> omega
  unfold stW
  rw [e1, e2]
  simp
theorem stN_one (n : Nat) : stN none none 1 n = n := by
  show (if (1 : Int) > 0 then (if (0 : Int) < (n : Int) then ((n : Int) - 0 - 1) / 1 + 1 else 0) else _).toNat = _
  rw [if_pos (by decide), Int.ediv_one]
  split <;> omega
theorem stF_one {ds : List PyData} : stF (.tuple ds) none none 1 = some (.tuple ds) := by
  show (if (1 : Int) ≠ 0 ∧ stN none none 1 ds.length ≤ ds.length then some (PyData.tuple (stepPick ds none none 1)) else none) = _
  rw [if_pos ⟨by decide, by rw [stN_one]; exact Nat.le_refl _⟩, step_one]
end
end K

/-! sets of texts -/
namespace K
open PySem PySem.Spec PyProof.Rows L2 Dl Rl
def keyT (t : Tag) : Key := .inr ⟨t.toArray⟩
theorem keyT_inj (a b : Tag) (h : keyT a = keyT b) : a = b := by
  injection h with h
  exact str_inj h
theorem keysD_S (ls : List Tag) : keysD (ls.map S) = some (ls.map keyT) := by
  have := keysD_of (ls.map keyT)
  rwa [List.map_map] at this
theorem encT_S (ls : List Tag) : (ls.map keyT).map encK = ls.map S := by rw [List.map_map]; rfl
theorem setL_S {ls : List Tag} (hl : ls.length < 3000) : setL (ls.map S) = some ((nub ls).map S) := by
  unfold setL
  rw [keysD_S]
  dsimp only
  rw [if_pos (by rw [List.length_map]; exact hl), nub_map keyT_inj, encT_S]
theorem sortSet_t {ls : List Tag} (h : ∀ t ∈ ls, Asc t) (hl : ls.length < 3000) : fSortSet (.tuple (ls.map S)) = some (.list ((sortS (nub ls)).map S)) := by
  show (match setL (ls.map S) with | some es => if okSort es = true then some (PyData.list (sortD es)) else none | none => none) = _
  rw [setL_S hl]
  dsimp only
  rw [if_pos (okSort_S fun t ht => h t (nub_mem.mp ht)), sortD_S]
theorem sortSet_l {ls : List Tag} (h : ∀ t ∈ ls, Asc t) (hl : ls.length < 3000) : fSortSet (.list (ls.map S)) = some (.list ((sortS (nub ls)).map S)) := sortSet_t h hl
theorem lenSet_l {ls : List Tag} (hl : ls.length < 3000) : fLenSet (.list (ls.map S)) = some (.int (nub ls).length) := by
  show (match setL (ls.map S) with | some es => some (PyData.int es.length) | none => none) = _
  rw [setL_S hl]
  dsimp only
  rw [List.length_map]
theorem e_sortSet {a : RE} {ρ : List Sl} : rSortSet a ρ = vE (a ρ) fun d => (fSortSet d).map .ret := rfl
theorem e_lenSet {a : RE} {ρ : List Sl} : rLenSet a ρ = vE (a ρ) fun d => (fLenSet d).map .ret := rfl
theorem nub_lot {n : Nat} {l : List Tag} (ht : ∀ t ∈ l, IsTag n t) : IsLot n (sortS (nub l)) := sort_lot (nub_nodup l) fun t h => ht t (nub_mem.mp h)
theorem nub_sort_len (l : List Tag) : (sortS (nub l)).length ≤ l.length := by rw [(sortS_perm _).length_eq]; exact nub_len l
theorem cut_mem {α : Type} {xs : List α} {lo hi : Option Int} {a : α} (h : a ∈ cut xs lo hi) : a ∈ xs := List.mem_of_mem_drop (List.mem_of_mem_take h)
/-! what a look tells of a known one -/
def wordL (some : List Tag) (t : Tag) : Tag := if some = [t] then [116, 104, 101, 114, 101] else if some.length = 0 then [103, 111, 110, 101] else if some.length = 1 then [111, 116, 104, 101, 114] else [109, 111, 114, 101]
theorem word_is {n : Nat} {lot : List Tag} (hL : IsLot n lot) {b t : Tag} : wordF b t (hearO lot b) = wordL (amF b lot) t := by
  have hl : ∀ t ∈ lot, t.length = n := fun t h => (hL.tg t h).1
  have hnd := lot_nodup hL
  rcases e : amF b lot with _ | ⟨x, _ | ⟨y, r⟩⟩
  · rw [word_none e]
    rfl
  · have hx : x ∈ lot ∧ x.take b.length = b := am_mem (by rw [e]; exact List.mem_cons_self)
    by_cases ht : x = t
    · subst ht
      rw [word_one (hL.tg x hx.1) e]
      unfold wordL
      rw [if_pos rfl]
    · unfold wordL
      rw [if_neg (fun z => ht (by injection z)), if_neg (by simp), if_pos (show [x].length = 1 from rfl), hear_am e]
      unfold wordF
      dsimp only
      rw [if_neg (no_x (hL.tg x hx.1) _), if_neg (fun z => ht ?_)]
      rw [← z]
      conv => lhs; rw [← List.take_append_drop b.length x, hx.2]
  · have hx : x ∈ lot ∧ x.take b.length = b := am_mem (by rw [e]; exact List.mem_cons_self)
    have hy : y ∈ lot ∧ y.take b.length = b := am_mem (by rw [e]; exact List.mem_cons_of_mem _ List.mem_cons_self)
    have hne : x ≠ y := by
      have h2 : (amF b lot).Nodup := List.Pairwise.filter _ hnd
      rw [e] at h2
      exact fun z => (List.nodup_cons.mp h2).1 (by rw [z]; exact List.mem_cons_self)
    obtain ⟨i, hi, hd⟩ := differ (hl x hx.1) (hl y hy.1) (hx.2.trans hy.2.symm) hne
    rw [word_more (hear_two e (by rw [hl x hx.1]; exact hi) hd)]
    unfold wordL
    rw [if_neg (fun z => by injection z with _ z; cases z), if_neg (by simp), if_neg (by simp)]
end K

/-! frames of drawn slots -/
namespace K
open PySem PySem.Spec PyProof.Rows L2 Dl Rl
theorem num_in {n : Nat} {t : Tag} (h : IsTag n t) : 0 ≤ numF t ∧ numF t < 2 ^ n := by
  obtain ⟨hl, hq⟩ := h
  have key : ∀ (t : Tag) (a : Int), (∀ q ∈ t, q = 48 ∨ q = 49) → 0 ≤ a → 0 ≤ t.foldl (fun (a : Int) (q : Nat) => 2 * a + ((q : Int) - 48)) a ∧ t.foldl (fun (a : Int) (q : Nat) => 2 * a + ((q : Int) - 48)) a < (a + 1) * 2 ^ t.length := by
    intro t
    induction t with
    | nil => intro a _ ha; exact ⟨ha, by simp; omega⟩
    | cons q t ih =>
      intro a hq ha
      have hq0 : (q : Int) - 48 = 0 ∨ (q : Int) - 48 = 1 := by rcases hq q List.mem_cons_self with z | z <;> omega
      obtain ⟨h1, h2⟩ := ih (2 * a + ((q : Int) - 48)) (fun x hx => hq x (List.mem_cons_of_mem _ hx)) (by omega)
      refine ⟨h1, Int.lt_of_lt_of_le h2 ?_⟩
      rw [List.length_cons, Int.pow_succ]
      have w : (0 : Int) ≤ 2 ^ t.length := Int.le_of_lt (Int.pow_pos (by decide))
      have : (2 * a + ((q : Int) - 48) + 1) * 2 ^ t.length ≤ ((a + 1) * 2) * 2 ^ t.length := Int.mul_le_mul_of_nonneg_right (by omega) w
      rw [show (a + 1) * (2 ^ t.length * 2) = ((a + 1) * 2) * 2 ^ t.length by rw [Int.mul_assoc, Int.mul_comm (2 ^ t.length)]]
      exact this
  have := key t 0 hq (by omega)
  rw [hl] at this
  refine ⟨this.1, ?_⟩
  have h2 := this.2
  rw [Int.zero_add, Int.one_mul] at h2
  exact h2
def slotF (t : Tag) (turn : Nat) (size : Nat) : Nat := ((numF t + 1) * ((turn : Int) + 1) * 40503 % 65521 % (size : Int)).toNat
theorem slot_eq {t : Tag} {turn size : Nat} (h : 0 < size) : ((numF t + 1) * ((turn : Int) + 1) * 40503 % 65521 % (size : Int)) = (slotF t turn size : Nat) := by
  unfold slotF
  rw [Int.toNat_of_nonneg (Int.emod_nonneg _ (by omega))]
theorem slot_lt {t : Tag} {turn size : Nat} (h : 0 < size) : slotF t turn size < size := by
  have h1 := slot_eq (t := t) (turn := turn) h
  have h2 := Int.emod_lt_of_pos ((numF t + 1) * ((turn : Int) + 1) * 40503 % 65521) (show (0 : Int) < (size : Int) by omega)
  omega
def frF (lot : List Tag) (turn size : Nat) : List (List Tag) := (List.range size).map fun k => lot.filter fun t => decide (slotF t turn size = k)
theorem fr_len (lot : List Tag) (turn size : Nat) : (frF lot turn size).length = size := by unfold frF; rw [List.length_map, List.length_range]
theorem fr_nil (turn size : Nat) : frF [] turn size = List.replicate size [] := by
  unfold frF
  refine List.ext_getElem (by rw [List.length_map, List.length_range, List.length_replicate]) fun i h1 h2 => ?_
  rw [List.getElem_map, List.getElem_replicate]
  rfl
/-- one tag more in its slot -/
theorem fr_snoc (lot : List Tag) (t : Tag) {turn size : Nat} (h : 0 < size) : frF (lot ++ [t]) turn size = (frF lot turn size).set (slotF t turn size) ((frF lot turn size).getD (slotF t turn size) [] ++ [t]) := by
  have hs := slot_lt (t := t) (turn := turn) h
  refine List.ext_getElem (by rw [List.length_set, fr_len, fr_len]) fun i h1 h2 => ?_
  have hi : i < size := by rw [fr_len] at h1; exact h1
  have g : ∀ (l : List Tag) (q : i < (frF l turn size).length), (frF l turn size)[i] = l.filter fun t => decide (slotF t turn size = i) := fun l q => by
    have e : (frF l turn size)[i]? = some (l.filter fun t => decide (slotF t turn size = i)) := by
      unfold frF
      rw [List.getElem?_map, List.getElem?_range hi]
      rfl
    exact (List.getElem?_eq_some_iff.mp e).2
  rw [g, List.getElem_set, List.filter_append]
  by_cases e : slotF t turn size = i
  · rw [if_pos e, List.getD_eq_getElem?_getD, e, List.getElem?_eq_getElem (by rw [fr_len]; exact hi), Option.getD_some, g]
    congr 1
    rw [List.filter_cons, if_pos (decide_eq_true e)]
    rfl
  · rw [if_neg e, g, List.filter_cons, if_neg (by rw [decide_eq_false e]; exact Bool.false_ne_true)]
    simp
def one? : List Tag → Option Tag
  | [t] => some t
  | _ => none
theorem one_some {r : List Tag} {t : Tag} (h : one? r = some t) : r = [t] := by
  unfold one? at h
  split at h
  · cases h; rfl
  · cases h
def aloneF (rows : List (List Tag)) : List Tag := rows.filterMap one?
theorem alone_mem {rows : List (List Tag)} {t : Tag} : t ∈ aloneF rows ↔ [t] ∈ rows := by
  unfold aloneF
  rw [List.mem_filterMap]
  exact ⟨fun ⟨r, h1, h2⟩ => by rw [← one_some h2]; exact h1, fun h => ⟨[t], h, rfl⟩⟩
theorem nodup_fm {α β : Type} {f : α → Option β} : ∀ {l : List α}, l.Nodup → (∀ a ∈ l, ∀ b ∈ l, ∀ y, f a = some y → f b = some y → a = b) → (l.filterMap f).Nodup
  | [], _, _ => List.nodup_nil
  | a :: l, hn, h => by
    obtain ⟨h1, h2⟩ := List.nodup_cons.mp hn
    have ih := nodup_fm h2 fun x hx y hy => h x (List.mem_cons_of_mem _ hx) y (List.mem_cons_of_mem _ hy)
    rw [List.filterMap_cons]
    cases e : f a with
    | none => exact ih
    | some y =>
      refine List.nodup_cons.mpr ⟨fun z => ?_, ih⟩
      obtain ⟨b, hb, eb⟩ := List.mem_filterMap.mp z
      have := h a List.mem_cons_self b (List.mem_cons_of_mem _ hb) y e eb
      rw [this] at h1
      exact h1 hb
theorem alone_nodup (lot : List Tag) (turn size : Nat) : (aloneF (frF lot turn size)).Nodup := by
  unfold aloneF frF
  rw [List.filterMap_map]
  refine nodup_fm List.nodup_range fun a _ b _ t ha hb => ?_
  have h1 := one_some (show one? (lot.filter fun t => decide (slotF t turn size = a)) = some t from ha)
  have h2 := one_some (show one? (lot.filter fun t => decide (slotF t turn size = b)) = some t from hb)
  have m1 : t ∈ lot.filter fun t => decide (slotF t turn size = a) := by rw [h1]; exact List.mem_cons_self
  have m2 : t ∈ lot.filter fun t => decide (slotF t turn size = b) := by rw [h2]; exact List.mem_cons_self
  exact (of_decide_eq_true (List.mem_filter.mp m1).2).symm.trans (of_decide_eq_true (List.mem_filter.mp m2).2)
theorem alone_sub {lot : List Tag} {turn size : Nat} {t : Tag} (h : t ∈ aloneF (frF lot turn size)) : t ∈ lot := by
  obtain ⟨k, _, e⟩ := List.mem_map.mp (alone_mem.mp h)
  have : t ∈ lot.filter fun t => decide (slotF t turn size = k) := by rw [e]; exact List.mem_cons_self
  exact (List.mem_filter.mp this).1
def withF (lot some : List Tag) : List Tag := lot.filter fun t => !decide (t ∈ some)
theorem with_lot {n : Nat} {lot : List Tag} (h : IsLot n lot) (some : List Tag) : IsLot n (withF lot some) := ⟨fun t ht => h.tg t (List.mem_filter.mp ht).1, h.up.filter _⟩
theorem with_len (lot some : List Tag) : (withF lot some).length ≤ lot.length := List.length_filter_le _ _
def rnF : List Tag → Nat → List Nat → List (List Tag)
  | _, _, [] => []
  | lot, i, s :: r => aloneF (frF lot i s) :: rnF (withF lot (aloneF (frF lot i s))) (i + 1) r
/-- what is still there -/
def lfF : List Tag → Nat → List Nat → List Tag
  | lot, _, [] => lot
  | lot, i, s :: r => lfF (withF lot (aloneF (frF lot i s))) (i + 1) r
theorem lf_sub : ∀ {ss : List Nat} {lot : List Tag} {i : Nat} {t : Tag}, t ∈ lfF lot i ss → t ∈ lot
  | [], _, _, _, h => h
  | s :: r, lot, i, t, h => (List.mem_filter.mp (lf_sub (ss := r) h)).1
theorem rn_mem : ∀ {ss : List Nat} {lot : List Tag} {i : Nat} {t : Tag}, t ∈ (rnF lot i ss).flatten ↔ t ∈ lot ∧ t ∉ lfF lot i ss
  | [], lot, i, t => by
    show t ∈ ([] : List Tag) ↔ t ∈ lot ∧ t ∉ lot
    exact ⟨fun h => (by cases h), fun h => absurd h.1 h.2⟩
  | s :: r, lot, i, t => by
    show t ∈ aloneF (frF lot i s) ++ (rnF (withF lot (aloneF (frF lot i s))) (i + 1) r).flatten ↔ t ∈ lot ∧ t ∉ lfF (withF lot (aloneF (frF lot i s))) (i + 1) r
    rw [List.mem_append, rn_mem]
    have hw : t ∈ withF lot (aloneF (frF lot i s)) ↔ t ∈ lot ∧ t ∉ aloneF (frF lot i s) := by
      unfold withF
      rw [List.mem_filter]
      simp
    constructor
    · rintro (h | h)
      · exact ⟨alone_sub h, fun z => (hw.mp (lf_sub z)).2 h⟩
      · exact ⟨(hw.mp h.1).1, h.2⟩
    · rintro ⟨h1, h2⟩
      rcases Classical.em (t ∈ aloneF (frF lot i s)) with z | z
      · exact .inl z
      · exact .inr ⟨hw.mpr ⟨h1, z⟩, h2⟩
theorem rn_nodup : ∀ {ss : List Nat} {lot : List Tag} {i : Nat}, (rnF lot i ss).flatten.Nodup
  | [], _, _ => List.nodup_nil
  | s :: r, lot, i => by
    show (aloneF (frF lot i s) ++ (rnF (withF lot (aloneF (frF lot i s))) (i + 1) r).flatten).Nodup
    refine List.nodup_append.mpr ⟨alone_nodup lot i s, rn_nodup, fun a ha b hb e => ?_⟩
    have h1 := (rn_mem.mp hb).1
    unfold withF at h1
    rw [← e] at h1
    have h2 := (List.mem_filter.mp h1).2
    rw [decide_eq_true ha] at h2
    cases h2
theorem leS_of {a b : Tag} (h : a < b) : leS a b = true := by
  unfold leS
  rw [Bool.not_eq_true']
  exact decide_eq_false (List.lt_asymm h)
/-- a lot's part that has just some tags -/
theorem sort_part {n : Nat} {lot l : List Tag} (h : IsLot n lot) (hd : l.Nodup) (p : Tag → Bool) (hm : ∀ t, t ∈ l ↔ t ∈ lot ∧ p t = true) : sortS l = lot.filter p := by
  refine (sortS_uniq (l := l) (ys := lot.filter p) ?_ ((h.up.filter p).imp leS_of)).symm
  refine (List.perm_ext_iff_of_nodup ((lot_nodup h).filter p) hd).mpr fun t => ?_
  rw [List.mem_filter, hm t]
theorem silent_eq {n : Nat} {lot : List Tag} (h : IsLot n lot) {ss : List Nat} : sortS (rnF lot 0 ss).flatten = lot.filter fun t => !decide (t ∈ lfF lot 0 ss) :=
  sort_part h rn_nodup _ fun t => by
    rw [rn_mem]
    simp
/-! how many slots have how many -/
def clF (rows : List (List Tag)) : Nat := (rows.filter fun r => decide (1 < r.length)).length
theorem count_three (rows : List (List Tag)) : (rows.filter fun r => decide (r.length = 0)).length + (rows.filter fun r => decide (r.length = 1)).length + clF rows = rows.length := by
  unfold clF
  induction rows with
  | nil => rfl
  | cons r l ih =>
    rw [List.filter_cons, List.filter_cons, List.filter_cons, List.length_cons]
    rcases r with _ | ⟨a, _ | ⟨b, r⟩⟩
    · rw [if_pos (show decide (([] : List Tag).length = 0) = true from rfl), if_neg (show ¬ decide (([] : List Tag).length = 1) = true by decide), if_neg (show ¬ decide (1 < ([] : List Tag).length) = true by decide), List.length_cons]
      omega
    · rw [if_neg (show ¬ decide ([a].length = 0) = true by simp), if_pos (show decide ([a].length = 1) = true from rfl), if_neg (show ¬ decide (1 < [a].length) = true by simp), List.length_cons]
      omega
    · rw [if_neg (show ¬ decide ((a :: b :: r).length = 0) = true by simp), if_neg (show ¬ decide ((a :: b :: r).length = 1) = true by simp), if_pos (show decide (1 < (a :: b :: r).length) = true by simp), List.length_cons]
      omega
/-! sizes that fit -/
def szF : Nat → List Tag → Nat → Nat → Option (List Nat)
  | 0, _, _, _ => none
  | m + 1, lot, turn, size => if clF (frF lot turn size) = 0 then some [size] else (szF m (withF lot (aloneF (frF lot turn size))) (turn + 1) (2 * clF (frF lot turn size))).map (size :: ·)
theorem cl_le (lot : List Tag) (turn size : Nat) : clF (frF lot turn size) ≤ size := by
  have := count_three (frF lot turn size)
  rw [fr_len] at this
  omega
/-- all tags are in the slots -/
theorem fr_step {turn size : Nat} (h : 0 < size) (l : List Tag) (t : Tag) (ih : ((frF l turn size).map List.length).sum = l.length) : ((frF (l ++ [t]) turn size).map List.length).sum = (l ++ [t]).length := by
  rw [fr_snoc l t h]
  have hs := slot_lt (t := t) (turn := turn) h
  have key : ∀ (rows : List (List Tag)) (k : Nat), k < rows.length → ((rows.set k (rows.getD k [] ++ [t])).map List.length).sum = (rows.map List.length).sum + 1 := by
    intro rows
    induction rows with
    | nil => intro k hk; exact absurd hk (Nat.not_lt_zero _)
    | cons r rows ih2 =>
      intro k hk
      cases k with
      | zero => simp [List.sum_cons]; omega
      | succ k =>
        have := ih2 k (Nat.lt_of_succ_lt_succ hk)
        rw [List.set_cons_succ, List.map_cons, List.sum_cons, List.map_cons, List.sum_cons, List.getD_cons_succ, this]
        omega
  rw [key _ _ (by rw [fr_len]; exact hs), ih, List.length_append]
  rfl
theorem fr_sum {lot : List Tag} {turn size : Nat} (h : 0 < size) : ((frF lot turn size).map List.length).sum = lot.length := by
  have rev : ∀ (l : List Tag), ((frF l.reverse turn size).map List.length).sum = l.reverse.length := by
    intro l
    induction l with
    | nil =>
      rw [List.reverse_nil, fr_nil, List.map_replicate, List.length_nil]
      simp
    | cons t l ih => rw [List.reverse_cons]; exact fr_step h l.reverse t ih
  have := rev lot.reverse
  rwa [List.reverse_reverse] at this
theorem cl_half (rows : List (List Tag)) : 2 * clF rows ≤ (rows.map List.length).sum := by
  unfold clF
  induction rows with
  | nil => exact Nat.le_refl _
  | cons r l ih =>
    rw [List.filter_cons, List.map_cons, List.sum_cons]
    split
    · rename_i h
      have := of_decide_eq_true h
      rw [List.length_cons]
      omega
    · omega
def rwD (r : List Tag) : PyData := .tuple (r.map S)
theorem count_i {α : Type} {f : α → Int} {m : Int} (l : List α) : fCount (.list (l.map fun a => .int (f a))) (.int m) = some (.int ((l.filter fun a => decide (f a = m)).length : Nat)) := by
  have h1 : ((l.map fun a => PyData.int (f a)).all flatD && flatD (.int m)) = true := by
    rw [show flatD (.int m) = true from rfl, Bool.and_true]
    refine List.all_eq_true.mpr fun d hd => ?_
    obtain ⟨a, _, rfl⟩ := List.mem_map.mp hd
    rfl
  show (if ((l.map fun a => PyData.int (f a)).all flatD && flatD (.int m)) = true then some (PyData.int (cntD (.int m) (l.map fun a => .int (f a)))) else none) = _
  rw [if_pos h1]
  congr 3
  unfold cntD
  rw [List.map_map, List.countP_map, List.countP_eq_length_filter]
  refine congrArg List.length (List.filter_congr fun a _ => ?_)
  show eqV (.int (f a)) (.int m) = _
  unfold eqV
  first | rfl | (by_cases h : f a = m <;> simp [h])
theorem nb_S {l : List Tag} : nbD (.tuple (l.map S)) = true := nb_mapS
theorem any_S {ls : List Tag} {t : Tag} : (ls.map S).any (fun z => PyData.eqv z (S t)) = decide (t ∈ ls) := by
  rw [List.any_map]
  by_cases h : t ∈ ls
  · rw [decide_eq_true h]
    exact List.any_eq_true.mpr ⟨t, h, (eqv_iff _ _ rfl rfl).mpr rfl⟩
  · rw [decide_eq_false h]
    refine List.any_eq_false.mpr fun x hx z => h ?_
    have := S_inj ((eqv_iff (S x) (S t) rfl rfl).mp z)
    rw [← this]
    exact hx
theorem in_l {ls : List Tag} {t : Tag} (h1 : Asc t) (h2 : ∀ t ∈ ls, Asc t) : cIn (S t) (.list (ls.map S)) = some (decide (t ∈ ls)) := by
  show (if (SeqAt.shaped (S t) && SeqAt.shaped (.list (ls.map S))) = true then some ((ls.map S).any fun z => PyData.eqv z (S t)) else none) = _
  rw [if_pos (by rw [shaped_lst h2, sh_ok (n := 0) (sh_S h1) (by decide)]; rfl), any_S]
theorem ni_l {ls : List Tag} {t : Tag} (h1 : Asc t) (h2 : ∀ t ∈ ls, Asc t) : cNi (S t) (.list (ls.map S)) = some (!decide (t ∈ ls)) := by unfold cNi; rw [in_l h1 h2]; rfl
theorem rwD_inj {a b : List Tag} (h : rwD a = rwD b) : a = b := by
  injection h with h
  exact mapS_inj h
theorem sh_rows {rows : List (List Tag)} (h : ∀ r ∈ rows, ∀ t ∈ r, Asc t) : SeqAt.shaped (.list (rows.map rwD)) = true := sh_ok (n := 2) (sh_lst fun d hd => by
  obtain ⟨r, hr, rfl⟩ := List.mem_map.mp hd
  exact sh_tup (sh_mapS (h r hr))) (by decide)
theorem ni_rows {rows : List (List Tag)} {r : List Tag} (h1 : ∀ t ∈ r, Asc t) (h2 : ∀ r ∈ rows, ∀ t ∈ r, Asc t) : cNi (rwD r) (.list (rows.map rwD)) = some (!decide (r ∈ rows)) := by
  have e : cIn (rwD r) (.list (rows.map rwD)) = some (decide (r ∈ rows)) := by
    show (if (SeqAt.shaped (rwD r) && SeqAt.shaped (.list (rows.map rwD))) = true then some ((rows.map rwD).any fun z => PyData.eqv z (rwD r)) else none) = _
    rw [if_pos (by rw [sh_rows h2, show SeqAt.shaped (rwD r) = true from shaped_tup h1]; rfl), List.any_map]
    congr 1
    by_cases h : r ∈ rows
    · rw [decide_eq_true h]
      exact List.any_eq_true.mpr ⟨r, h, (eqv_iff _ _ nb_S nb_S).mpr rfl⟩
    · rw [decide_eq_false h]
      refine List.any_eq_false.mpr fun x hx z => h ?_
      have := rwD_inj ((eqv_iff (rwD x) (rwD r) nb_S nb_S).mp z)
      rw [← this]
      exact hx
  unfold cNi
  rw [e]
  rfl
theorem nodup_le {α : Type} [DecidableEq α] : ∀ {l m : List α}, l.Nodup → (∀ x ∈ l, x ∈ m) → l.length ≤ m.length
  | [], _, _, _ => Nat.zero_le _
  | a :: l, m, h, hs => by
    obtain ⟨h1, h2⟩ := List.nodup_cons.mp h
    have := nodup_le (l := l) (m := m.erase a) h2 fun x hx => (List.mem_erase_of_ne fun z => h1 (by rw [← z]; exact hx)).mpr (hs x (List.mem_cons_of_mem _ hx))
    rw [List.length_erase_of_mem (hs a List.mem_cons_self)] at this
    have hp : 0 < m.length := List.length_pos_of_mem (hs a List.mem_cons_self)
    rw [List.length_cons]
    omega
theorem flatten_sub {α : Type} : ∀ {l m : List (List α)}, l.Sublist m → l.flatten.Sublist m.flatten
  | _, _, .slnil => List.Sublist.refl _
  | _, _, .cons a h => by rw [List.flatten_cons]; exact (flatten_sub h).trans (List.sublist_append_right _ _)
  | _, _, .cons₂ a h => by rw [List.flatten_cons, List.flatten_cons]; exact (List.Sublist.refl _).append (flatten_sub h)
theorem mix_nat {c p : Int} {m : Nat} (h : 0 < m) : ∃ q : Nat, q < m ∧ mixF c p (m : Nat) = (q : Nat) := by
  obtain ⟨h1, h2⟩ := mix_in (c := c) (p := p) (m := (m : Nat)) (by omega)
  exact ⟨(mixF c p (m : Nat)).toNat, by omega, (Int.toNat_of_nonneg h1).symm⟩
theorem noLs_S : ∀ l : List Tag, noLs (l.map S) = true
  | [] => rfl
  | t :: l => by
    show (noL (S t) && noLs (l.map S)) = true
    rw [noLs_S l]
    rfl
theorem at_last {α : Type} (l : List α) (x : α) : atI (l ++ [x]) (-1) = some x := by
  have h1 : (l ++ [x]).length = l.length + 1 := by rw [List.length_append]; rfl
  unfold atI ixN
  rw [if_neg (by decide), if_pos (by rw [h1]; omega), h1, show ((-1 : Int) + ((l.length + 1 : Nat) : Int)).toNat = l.length by omega]
  show (l ++ [x])[l.length]? = some x
  rw [List.getElem?_append_right (Nat.le_refl _), Nat.sub_self]
  rfl
end K

/-! how many asks: between the least and the most -/
namespace K
open PySem PySem.Spec PyProof.Rows L2 Dl Rl
section
variable {ls : List Tag} {w : Way} {n : Nat}
theorem askL_one (hL : IsLot n ls) {b : Tag} (h : (amF b ls).length ≤ 1) : (wF ls w n b).length = 1 := by
  rw [wF_eq]
  cases hs : hearO ls b with
  | none => rw [bF_none]; rfl
  | some s =>
    have hx : 120 ∉ s := fun z => by
      have := two_of_x (fun t ht => (hL.tg t ht).1) hs z hL.tg
      omega
    rw [bF_nox hx]
    rfl
theorem hear_many (hL : IsLot n ls) {b : Tag} (h : 1 < (amF b ls).length) : ∃ s, hearO ls b = some s ∧ 120 ∈ s := by
  rcases e : amF b ls with _ | ⟨x, _ | ⟨y, r⟩⟩
  · rw [e] at h
    exact absurd h (by simp)
  · rw [e] at h
    exact absurd h (by simp)
  · have mx := am_mem (b := b) (ls := ls) (t := x) (by rw [e]; exact List.mem_cons_self)
    have my := am_mem (b := b) (ls := ls) (t := y) (by rw [e]; exact List.mem_cons_of_mem _ List.mem_cons_self)
    have nd : (amF b ls).Nodup := List.Pairwise.filter _ (lot_nodup hL)
    rw [e] at nd
    have hne : x ≠ y := fun z => (List.nodup_cons.mp nd).1 (z ▸ List.mem_cons_self)
    obtain ⟨i, h1, h2⟩ := differ (n := n) (k := b.length) (hL.tg x mx.1).1 (hL.tg y my.1).1 (mx.2.trans my.2.symm) hne
    exact hear_two e (by rw [(hL.tg x mx.1).1]; exact h1) h2
theorem many_lt (hL : IsLot n ls) {b : Tag} (h : 1 < (amF b ls).length) : b.length < n := by
  obtain ⟨s, hs, hx⟩ := hear_many hL h
  have h1 := hear_len (fun t ht => (hL.tg t ht).1) hs
  have h2 := List.length_pos_of_mem hx
  omega
theorem hear_no {b : Tag} (h : (amF b ls).length = 0) : hearO ls b = none := by
  unfold hearO
  rw [List.length_eq_zero_iff.mp h]
theorem go_b {w : Way} (hw : w ≠ .marks) (b s : Tag) : goT w b s = b := if_neg hw
theorem bF_same (hw : w ≠ .marks) (ht : ∀ t ∈ ls, IsTag n t) {b s1 s2 : Tag} (h1 : Fit ls b (some s1)) (x1 : 120 ∈ s1) (h2 : Fit ls b (some s2)) (x2 : 120 ∈ s2) : bF ls w n b (some s1) = bF ls w n b (some s2) := by
  rw [bF_x ht h1 x1, bF_x ht h2 x2, go_b hw, go_b hw]
theorem snoc_len (b : Tag) (q : Nat) : (b ++ [q]).length = b.length + 1 := by rw [List.length_append, List.length_singleton]
theorem askL_two (hw : w ≠ .marks) (hL : IsLot n ls) {b : Tag} (h : 1 < (amF b ls).length) :
    (wF ls w n b).length = if w = .skip ∧ (amF (b ++ [48]) ls).length = 0 then 1 + (wF ls w n (b ++ [49])).length else 1 + (wF ls w n (b ++ [48])).length + (wF ls w n (b ++ [49])).length := by
  obtain ⟨s, hs, hx⟩ := hear_many hL h
  rw [wF_eq, hs, bF_x hL.tg (by rw [← hs]; exact fit_hear) hx, go_b hw]
  by_cases hk : w = .skip ∧ hearO ls (b ++ [48]) = none
  · have h0 := am_none hk.2
    obtain ⟨s1, q1, q2⟩ := hear_one hL.tg hs hx hk.2
    have e1 : bF ls w n (b ++ [49]) (some [120]) = bF ls w n (b ++ [49]) (some s1) := bF_same hw hL.tg (fit_x hL.tg hs hx hk.2) (by simp) (by rw [← q1]; exact fit_hear) q2
    have e0 := askL_one (w := w) hL (b := b ++ [48]) (by rw [h0]; decide)
    rw [if_pos hk, if_pos ⟨hk.1, by rw [h0]; rfl⟩, e1, List.length_cons, List.length_append, e0, wF_eq (b ++ [49]), q1, List.length_cons]
    omega
  · rw [if_neg hk, if_neg (fun z => hk ⟨z.1, hear_no z.2⟩), List.length_cons, List.length_append]
    omega
theorem cnt_two (hL : IsLot n ls) {b : Tag} (h : b.length < n) : (amF (b ++ [48]) ls).length + (amF (b ++ [49]) ls).length = (amF b ls).length := by
  rw [← am_two hL h, List.length_append]
theorem cnt_le (hL : IsLot n ls) : ∀ d (b : Tag), n - b.length = d → b.length ≤ n → (amF b ls).length ≤ 2 ^ d
  | 0, b, hd, hb => by
    by_cases h : 1 < (amF b ls).length
    · have := many_lt hL h
      omega
    · rw [Nat.pow_zero]; omega
  | d + 1, b, hd, hb => by
    have h2 := cnt_two hL (b := b) (by omega)
    have a0 := cnt_le hL d (b ++ [48]) (by rw [snoc_len]; omega) (by rw [snoc_len]; omega)
    have a1 := cnt_le hL d (b ++ [49]) (by rw [snoc_len]; omega) (by rw [snoc_len]; omega)
    rw [Nat.pow_succ]
    omega
/-! the least and the most -/
def cplF (s m : Nat) : List Nat := (List.range (min m (2 ^ s) + 1 - (m - 2 ^ s))).map (fun i => (m - 2 ^ s) + i)
def cst (w : Way) (f : Nat → Nat) (m a : Nat) : Nat := if a = 0 ∧ w = .skip then 1 + f (m - a) else 1 + f a + f (m - a)
def bst (mx : Bool) : List Nat → Nat
  | [] => 0
  | x :: r => r.foldl (fun a y => if (if mx = true then decide (a < y) else decide (y < a)) = true then y else a) x
def bdF (w : Way) (mx : Bool) : Nat → Nat → Nat
  | 0, _ => 1
  | s + 1, m => if m ≤ 1 then 1 else bst mx ((cplF s m).map (cst w (bdF w mx s) m))
theorem bst_max : ∀ (r : List Nat) (x : Nat), x ≤ bst true (x :: r) ∧ ∀ y ∈ r, y ≤ bst true (x :: r)
  | [], x => ⟨Nat.le_refl _, fun y h => by cases h⟩
  | z :: r, x => by
    obtain ⟨h1, h2⟩ := bst_max r (if (if true = true then decide (x < z) else decide (z < x)) = true then z else x)
    have e : bst true (x :: z :: r) = bst true ((if (if true = true then decide (x < z) else decide (z < x)) = true then z else x) :: r) := rfl
    rw [e]
    have h3 : x ≤ (if (if true = true then decide (x < z) else decide (z < x)) = true then z else x) ∧ z ≤ (if (if true = true then decide (x < z) else decide (z < x)) = true then z else x) := by
      rw [if_pos rfl]
      by_cases c : x < z
      · rw [decide_eq_true c, if_pos rfl]; omega
      · rw [decide_eq_false c, if_neg Bool.false_ne_true]; omega
    refine ⟨by omega, fun y hy => ?_⟩
    rcases List.mem_cons.mp hy with q | q
    · rw [q]; omega
    · exact h2 y q
theorem bst_min : ∀ (r : List Nat) (x : Nat), bst false (x :: r) ≤ x ∧ ∀ y ∈ r, bst false (x :: r) ≤ y
  | [], x => ⟨Nat.le_refl _, fun y h => by cases h⟩
  | z :: r, x => by
    obtain ⟨h1, h2⟩ := bst_min r (if (if false = true then decide (x < z) else decide (z < x)) = true then z else x)
    have e : bst false (x :: z :: r) = bst false ((if (if false = true then decide (x < z) else decide (z < x)) = true then z else x) :: r) := rfl
    rw [e]
    have h3 : (if (if false = true then decide (x < z) else decide (z < x)) = true then z else x) ≤ x ∧ (if (if false = true then decide (x < z) else decide (z < x)) = true then z else x) ≤ z := by
      rw [if_neg Bool.false_ne_true]
      by_cases c : z < x
      · rw [decide_eq_true c, if_pos rfl]; omega
      · rw [decide_eq_false c, if_neg Bool.false_ne_true]; omega
    refine ⟨by omega, fun y hy => ?_⟩
    rcases List.mem_cons.mp hy with q | q
    · rw [q]; omega
    · exact h2 y q
theorem bst_ge {l : List Nat} {y : Nat} (h : y ∈ l) : y ≤ bst true l := by
  cases l with
  | nil => cases h
  | cons x r =>
    rcases List.mem_cons.mp h with z | z
    · rw [z]; exact (bst_max r x).1
    · exact (bst_max r x).2 y z
theorem bst_le {l : List Nat} {y : Nat} (h : y ∈ l) : bst false l ≤ y := by
  cases l with
  | nil => cases h
  | cons x r =>
    rcases List.mem_cons.mp h with z | z
    · rw [z]; exact (bst_min r x).1
    · exact (bst_min r x).2 y z
theorem cpl_mem {s m a : Nat} (h1 : a ≤ m) (h2 : a ≤ 2 ^ s) (h3 : m - a ≤ 2 ^ s) : a ∈ cplF s m :=
  List.mem_map.mpr ⟨a - (m - 2 ^ s), List.mem_range.mpr (by omega), by omega⟩
theorem cpl_in {s m a : Nat} (h : a ∈ cplF s m) : a ≤ m ∧ a ≤ 2 ^ s ∧ m - a ≤ 2 ^ s := by
  obtain ⟨i, h1, rfl⟩ := List.mem_map.mp h
  have h1 := List.mem_range.mp h1
  omega
theorem ask_bounds (hw : w ≠ .marks) (hL : IsLot n ls) : ∀ d (b : Tag), n - b.length = d → b.length ≤ n → bdF w false d (amF b ls).length ≤ (wF ls w n b).length ∧ (wF ls w n b).length ≤ bdF w true d (amF b ls).length
  | 0, b, hd, hb => by
    have h1 := cnt_le hL 0 b hd hb
    rw [askL_one hL h1]
    exact ⟨Nat.le_refl _, Nat.le_refl _⟩
  | d + 1, b, hd, hb => by
    unfold bdF
    by_cases h : (amF b ls).length ≤ 1
    · rw [if_pos h, if_pos h, askL_one hL h]
      exact ⟨Nat.le_refl _, Nat.le_refl _⟩
    · rw [if_neg h, if_neg h]
      have e := askL_two hw hL (b := b) (by omega)
      have c2 := cnt_two hL (b := b) (by omega)
      have c0 := cnt_le hL d (b ++ [48]) (by rw [snoc_len]; omega) (by rw [snoc_len]; omega)
      have c1 := cnt_le hL d (b ++ [49]) (by rw [snoc_len]; omega) (by rw [snoc_len]; omega)
      have i0 := ask_bounds hw hL d (b ++ [48]) (by rw [snoc_len]; omega) (by rw [snoc_len]; omega)
      have i1 := ask_bounds hw hL d (b ++ [49]) (by rw [snoc_len]; omega) (by rw [snoc_len]; omega)
      generalize (wF ls w n b).length = X at *
      generalize (wF ls w n (b ++ [48])).length = X0 at *
      generalize (wF ls w n (b ++ [49])).length = X1 at *
      generalize (amF b ls).length = m at *
      generalize (amF (b ++ [48]) ls).length = m0 at *
      generalize (amF (b ++ [49]) ls).length = m1 at *
      have em : m - m0 = m1 := by omega
      have hm := cpl_mem (s := d) (m := m) (a := m0) (by omega) c0 (by omega)
      have g1 := bst_le (List.mem_map.mpr ⟨m0, hm, rfl⟩ : cst w (bdF w false d) m m0 ∈ _)
      have g2 := bst_ge (List.mem_map.mpr ⟨m0, hm, rfl⟩ : cst w (bdF w true d) m m0 ∈ _)
      have k1 : cst w (bdF w false d) m m0 ≤ X := by
        unfold cst
        rw [em, e]
        by_cases hk : m0 = 0 ∧ w = .skip
        · rw [if_pos hk, if_pos ⟨hk.2, hk.1⟩]; omega
        · rw [if_neg hk, if_neg (fun z => hk ⟨z.2, z.1⟩)]; omega
      have k2 : X ≤ cst w (bdF w true d) m m0 := by
        unfold cst
        rw [em, e]
        by_cases hk : m0 = 0 ∧ w = .skip
        · rw [if_pos hk, if_pos ⟨hk.2, hk.1⟩]; omega
        · rw [if_neg hk, if_neg (fun z => hk ⟨z.2, z.1⟩)]; omega
      exact ⟨by omega, by omega⟩
/-! by marks -/
theorem marks_both (hL : IsLot n ls) {b s : Tag} (hs : hearO ls b = some s) (hx : 120 ∈ s) {q q' : Nat} (hq : ∀ c : Nat, c = 48 ∨ c = 49 → c = q ∨ c = q') (hq2 : q' ≠ 120) : (amF (b ++ headX s ++ [q]) ls).length ≠ 0 := fun z => by
  have hl : ∀ t ∈ ls, t.length = n := fun t ht => (hL.tg t ht).1
  have hg := headX_lt hx
  have hn := hear_len hl hs
  have e := am_head hl hs hx
  have hgl : (b ++ headX s).length < n := by rw [List.length_append]; omega
  have h0 := List.length_eq_zero_iff.mp z
  rw [am_app hl hgl, e] at h0
  have sg : ∀ u ∈ amF b ls, u.getD (b ++ headX s).length 0 = q' := fun u hu => by
    have h1 := List.filter_eq_nil_iff.mp h0 u hu
    obtain ⟨g1, g2⟩ := hL.tg u (am_mem hu).1
    have hlt : (b ++ headX s).length < u.length := by omega
    have g3 : u.getD (b ++ headX s).length 0 = 48 ∨ u.getD (b ++ headX s).length 0 = 49 := by
      rw [List.getD_eq_getElem?_getD, List.getElem?_eq_getElem hlt]
      exact g2 _ (List.getElem_mem hlt)
    exact (hq _ g3).resolve_left fun y => h1 (decide_eq_true y)
  unfold hearO at hs
  rcases he : amF b ls with _ | ⟨t, r⟩
  · rw [he] at hs; cases hs
  · rw [he] at hs sg
    have hs := Option.some.inj hs
    have hk := (head_at hx).1
    have hlen : s.length = t.length - b.length := by rw [← hs, List.length_map, List.length_range]
    rw [← hs, List.getElem?_map, hs, List.getElem?_range (by omega)] at hk
    have hk := Option.some.inj hk
    unfold soundF blurF at hk
    rw [List.length_append] at sg
    rw [sg t List.mem_cons_self, if_pos] at hk
    · exact hq2 hk
    · rw [List.all_map]
      exact List.all_eq_true.mpr fun u hu => decide_eq_true (sg u (List.mem_cons_of_mem _ hu))
theorem ask_marks (hL : IsLot n ls) : ∀ d (b : Tag), n - b.length ≤ d → b.length ≤ n → (wF ls .marks n b).length = max 1 (2 * (amF b ls).length - 1)
  | d, b, hd, hb => by
    by_cases h : (amF b ls).length ≤ 1
    · rw [askL_one hL h]; omega
    · obtain ⟨s, hs, hx⟩ := hear_many hL (b := b) (by omega)
      have hl : ∀ t ∈ ls, t.length = n := fun t ht => (hL.tg t ht).1
      have hg := headX_lt hx
      have hn := hear_len hl hs
      have hgl : (b ++ headX s).length < n := by rw [List.length_append]; omega
      have e := am_head hl hs hx
      have c2 := cnt_two hL hgl
      rw [e] at c2
      have n0 := marks_both hL hs hx (q := 48) (q' := 49) (fun c h => h) (by decide)
      have n1 := marks_both hL hs hx (q := 49) (q' := 48) (fun c h => h.symm) (by decide)
      cases d with
      | zero => omega
      | succ d =>
        have i0 := ask_marks hL d (b ++ headX s ++ [48]) (by rw [snoc_len, List.length_append]; omega) (by rw [snoc_len]; omega)
        have i1 := ask_marks hL d (b ++ headX s ++ [49]) (by rw [snoc_len, List.length_append]; omega) (by rw [snoc_len]; omega)
        have eg : goT .marks b s = b ++ headX s := if_pos rfl
        rw [wF_eq, hs, bF_x hL.tg (by rw [← hs]; exact fit_hear) hx, eg, if_neg (fun z => by cases z.1), List.length_cons, List.length_append, i0, i1]
        omega
/-! no more than so many, by how many tags there are -/
def upB (c : Nat) : Nat → Nat → Nat
  | 0, _ => 0
  | d + 1, p => min p c + upB c d (2 * p)
theorem ask_half (hw : w ≠ .marks) (hL : IsLot n ls) {b : Tag} (h : 1 < (amF b ls).length) : (wF ls w n b).length ≤ 1 + (wF ls w n (b ++ [48])).length + (wF ls w n (b ++ [49])).length := by
  rw [askL_two hw hL h]
  split <;> omega
theorem upB_two : ∀ d a b c p, a + b ≤ c → upB a d p + upB b d p ≤ upB c d (2 * p)
  | 0, a, b, c, p, h => Nat.le_refl _
  | d + 1, a, b, c, p, h => by
    have := upB_two d a b c (2 * p) h
    unfold upB
    omega
theorem upB_mono : ∀ d a c p, a ≤ c → upB a d p ≤ upB c d p
  | 0, a, c, p, h => Nat.le_refl _
  | d + 1, a, c, p, h => by
    have := upB_mono d a c (2 * p) h
    unfold upB
    omega
/-- E: what is more than one under each beginning so far down -/
def excF (ls : List Tag) : Nat → Tag → Nat
  | 0, b => (amF b ls).length - 1
  | k + 1, b => excF ls k (b ++ [48]) + excF ls k (b ++ [49])
theorem ask_up (hw : w ≠ .marks) (hL : IsLot n ls) : ∀ k (b : Tag), b.length + k + 2 = n → (wF ls w n b).length ≤ 1 + 2 * upB ((amF b ls).length / 2) k 1 + 4 * excF ls k b
  | 0, b, hb => by
    unfold upB excF
    by_cases h : (amF b ls).length ≤ 1
    · rw [askL_one hL h]; omega
    · have e := ask_half hw hL (b := b) (by omega)
      have c2 := cnt_two hL (b := b) (by omega)
      have k1 : ∀ q, (wF ls w n (b ++ [q])).length ≤ 1 + 2 * ((amF (b ++ [q]) ls).length - 1) := fun q => by
        by_cases hq : (amF (b ++ [q]) ls).length ≤ 1
        · rw [askL_one hL hq]; omega
        · have e2 := ask_half hw hL (b := b ++ [q]) (by omega)
          have z0 := cnt_le hL 0 (b ++ [q] ++ [48]) (by rw [snoc_len, snoc_len]; omega) (by rw [snoc_len, snoc_len]; omega)
          have z1 := cnt_le hL 0 (b ++ [q] ++ [49]) (by rw [snoc_len, snoc_len]; omega) (by rw [snoc_len, snoc_len]; omega)
          rw [askL_one hL z0, askL_one hL z1] at e2
          omega
      have k48 := k1 48
      have k49 := k1 49
      omega
  | k + 1, b, hb => by
    unfold excF
    by_cases h : (amF b ls).length ≤ 1
    · rw [askL_one hL h]; omega
    · have e := ask_half hw hL (b := b) (by omega)
      have c2 := cnt_two hL (b := b) (by omega)
      have i0 := ask_up hw hL k (b ++ [48]) (by rw [snoc_len]; omega)
      have i1 := ask_up hw hL k (b ++ [49]) (by rw [snoc_len]; omega)
      have u := upB_two k ((amF (b ++ [48]) ls).length / 2) ((amF (b ++ [49]) ls).length / 2) ((amF b ls).length / 2) 1 (by omega)
      have eu : upB ((amF b ls).length / 2) (k + 1) 1 = min 1 ((amF b ls).length / 2) + upB ((amF b ls).length / 2) k (2 * 1) := rfl
      rw [eu]
      omega
theorem ask_up0 (hw : w ≠ .marks) (hL : IsLot n ls) : ∀ k (b : Tag), b.length + k = n → (wF ls w n b).length ≤ 1 + 2 * upB ((amF b ls).length / 2) k 1
  | 0, b, hb => by
    have z0 := cnt_le hL 0 b (by omega) (by omega)
    rw [askL_one hL z0]
    omega
  | k + 1, b, hb => by
    by_cases h : (amF b ls).length ≤ 1
    · rw [askL_one hL h]; omega
    · have e := ask_half hw hL (b := b) (by omega)
      have c2 := cnt_two hL (b := b) (by omega)
      have i0 := ask_up0 hw hL k (b ++ [48]) (by rw [snoc_len]; omega)
      have i1 := ask_up0 hw hL k (b ++ [49]) (by rw [snoc_len]; omega)
      have u := upB_two k ((amF (b ++ [48]) ls).length / 2) ((amF (b ++ [49]) ls).length / 2) ((amF b ls).length / 2) 1 (by omega)
      have eu : upB ((amF b ls).length / 2) (k + 1) 1 = min 1 ((amF b ls).length / 2) + upB ((amF b ls).length / 2) k (2 * 1) := rfl
      rw [eu]
      omega
end
end K

/-! k04: asks and crowded beginnings -/
namespace K
open PySem PySem.Spec PyProof.Rows L2 Dl Rl
/-- the crowded beginnings behind b -/
def crT (ls : List Tag) : Nat → Tag → List Tag
  | 0, _ => []
  | d + 1, b => if 1 < (amF b ls).length then b :: (crT ls d (b ++ [48]) ++ crT ls d (b ++ [49])) else []
/-- those of them that have none with 0 -/
def lameB (ls : List Tag) (b : Tag) : Bool := decide ((amF (b ++ [48]) ls).length = 0)
section
variable {ls : List Tag} {n : Nat} {w : Way}
theorem ask_cr (hw : w ≠ .marks) (hL : IsLot n ls) : ∀ d (b : Tag), n - b.length = d → b.length ≤ n → (wF ls w n b).length + (if w = .skip then ((crT ls d b).filter (lameB ls)).length else 0) = 1 + 2 * (crT ls d b).length
  | 0, b, hd, hb => by
    have h1 := cnt_le hL 0 b hd hb
    rw [askL_one hL h1]
    show 1 + (if w = .skip then 0 else 0) = 1 + 2 * 0
    rw [ite_self]
  | d + 1, b, hd, hb => by
    unfold crT
    by_cases h : 1 < (amF b ls).length
    · rw [if_pos h]
      have e := askL_two hw hL (b := b) h
      have i0 := ask_cr hw hL d (b ++ [48]) (by rw [snoc_len]; omega) (by rw [snoc_len]; omega)
      have i1 := ask_cr hw hL d (b ++ [49]) (by rw [snoc_len]; omega) (by rw [snoc_len]; omega)
      rw [List.filter_cons, List.filter_append, List.length_cons, List.length_append]
      by_cases hk : w = .skip
      · rw [if_pos hk] at i0 i1 ⊢
        by_cases h0 : (amF (b ++ [48]) ls).length = 0
        · rw [if_pos ⟨hk, h0⟩] at e
          have hl : lameB ls b = true := decide_eq_true h0
          have z : ¬ 1 < (amF (b ++ [48]) ls).length := by omega
          have e0 : crT ls d (b ++ [48]) = [] := by
            cases d with
            | zero => rfl
            | succ d => exact if_neg z
          rw [if_pos hl, List.length_cons, List.length_append]
          rw [e0] at i0 ⊢
          rw [List.filter_nil, List.length_nil] at *
          omega
        · rw [if_neg (fun z => h0 z.2)] at e
          have hl : ¬ lameB ls b = true := fun z => h0 (of_decide_eq_true z)
          rw [if_neg hl, List.length_append]
          omega
      · rw [if_neg hk] at i0 i1 ⊢
        rw [if_neg (fun z => hk z.1)] at e
        omega
    · rw [if_neg h, askL_one hL (by omega)]
      show 1 + (if w = .skip then 0 else 0) = 1 + 2 * 0
      rw [ite_self]
theorem cr_low (hL : IsLot n ls) : ∀ d (b : Tag), n - b.length = d → b.length ≤ n → 1 ≤ (amF b ls).length → 2 * (amF b ls).length + ((crT ls d b).filter (lameB ls)).length ≤ 2 + 2 * (crT ls d b).length
  | 0, b, hd, hb, h1 => by
    have h2 := cnt_le hL 0 b hd hb
    rw [Nat.pow_zero] at h2
    show 2 * (amF b ls).length + 0 ≤ 2 + 2 * 0
    omega
  | d + 1, b, hd, hb, h1 => by
    unfold crT
    by_cases h : 1 < (amF b ls).length
    · rw [if_pos h]
      have c2 := cnt_two hL (b := b) (by omega)
      have i0 := cr_low hL d (b ++ [48]) (by rw [snoc_len]; omega) (by rw [snoc_len]; omega)
      have i1 := cr_low hL d (b ++ [49]) (by rw [snoc_len]; omega) (by rw [snoc_len]; omega)
      have no : ∀ c : Tag, (amF c ls).length = 0 → crT ls d c = [] := fun c hc => by
        cases d with
        | zero => rfl
        | succ d => exact if_neg (by omega)
      rw [List.filter_cons, List.filter_append, List.length_cons, List.length_append]
      by_cases h0 : (amF (b ++ [48]) ls).length = 0
      · have hl : lameB ls b = true := decide_eq_true h0
        have i1 := i1 (by omega)
        rw [if_pos hl, List.length_cons, List.length_append, no _ h0, List.filter_nil, List.length_nil]
        omega
      · have hl : ¬ lameB ls b = true := fun z => h0 (of_decide_eq_true z)
        have i0 := i0 (by omega)
        rw [if_neg hl, List.length_append]
        by_cases hz : (amF (b ++ [49]) ls).length = 0
        · rw [no _ hz, List.filter_nil, List.length_nil]
          omega
        · have i1 := i1 (by omega)
          omega
    · rw [if_neg h]
      show 2 * (amF b ls).length + 0 ≤ 2 + 2 * 0
      omega
theorem cr_mono {ls' : List Tag} (hs : ∀ b, (amF b ls').length ≤ (amF b ls).length) : ∀ d (b : Tag), 2 * (crT ls' d b).length + ((crT ls d b).filter (lameB ls)).length ≤ 2 * (crT ls d b).length + ((crT ls' d b).filter (lameB ls')).length ∧ (crT ls' d b).length ≤ (crT ls d b).length
  | 0, b => ⟨Nat.le_refl _, Nat.le_refl _⟩
  | d + 1, b => by
    have lf := List.length_filter_le (lameB ls) (crT ls (d + 1) b)
    by_cases h : 1 < (amF b ls').length
    · have h2 : 1 < (amF b ls).length := Nat.lt_of_lt_of_le h (hs b)
      obtain ⟨i0, j0⟩ := cr_mono hs d (b ++ [48])
      obtain ⟨i1, j1⟩ := cr_mono hs d (b ++ [49])
      unfold crT
      rw [if_pos h, if_pos h2, List.filter_cons, List.filter_cons, List.filter_append, List.filter_append, List.length_cons, List.length_cons, List.length_append, List.length_append]
      refine ⟨?_, by omega⟩
      by_cases hl : lameB ls b = true
      · have hl' : lameB ls' b = true := decide_eq_true (by have := hs (b ++ [48]); have := of_decide_eq_true hl; omega)
        rw [if_pos hl, if_pos hl', List.length_cons, List.length_cons, List.length_append, List.length_append]
        omega
      · rw [if_neg hl, List.length_append]
        by_cases hl' : lameB ls' b = true
        · rw [if_pos hl', List.length_cons, List.length_append]; omega
        · rw [if_neg hl', List.length_append]; omega
    · have e : crT ls' (d + 1) b = [] := if_neg h
      rw [e]
      refine ⟨?_, Nat.zero_le _⟩
      show 2 * 0 + _ ≤ _ + 0
      omega
theorem pre_crowd {b p : Tag} (h : b <+: p) : (amF p ls).length ≤ (amF b ls).length := by
  unfold amF
  rw [← List.countP_eq_length_filter, ← List.countP_eq_length_filter]
  refine List.countP_mono_left fun t _ ht => ?_
  have ht := of_decide_eq_true ht
  refine decide_eq_true ?_
  have hp : p <+: t := by rw [List.prefix_iff_eq_take]; exact ht.symm
  exact (List.prefix_iff_eq_take.mp (h.trans hp)).symm
theorem cr_pre : ∀ d (b p : Tag), p ∈ crT ls d b → b <+: p ∧ 1 < (amF p ls).length
  | 0, b, p, h => by cases h
  | d + 1, b, p, h => by
    unfold crT at h
    by_cases hc : 1 < (amF b ls).length
    · rw [if_pos hc] at h
      rcases List.mem_cons.mp h with z | z
      · rw [z]; exact ⟨List.prefix_refl _, hc⟩
      · rcases List.mem_append.mp z with y | y
        · obtain ⟨a, c⟩ := cr_pre d _ p y; exact ⟨(List.prefix_append _ _).trans a, c⟩
        · obtain ⟨a, c⟩ := cr_pre d _ p y; exact ⟨(List.prefix_append _ _).trans a, c⟩
    · rw [if_neg hc] at h; cases h
theorem cr_all (hL : IsLot n ls) : ∀ d (b p : Tag), n - b.length = d → b.length ≤ n → b <+: p → 1 < (amF p ls).length → p ∈ crT ls d b
  | 0, b, p, hd, hb, h1, h2 => by
    have := many_lt hL h2
    have := h1.length_le
    omega
  | d + 1, b, p, hd, hb, h1, h2 => by
    have hc : 1 < (amF b ls).length := Nat.lt_of_lt_of_le h2 (pre_crowd h1)
    unfold crT
    rw [if_pos hc]
    obtain ⟨u, rfl⟩ := h1
    cases u with
    | nil => rw [List.append_nil]; exact List.mem_cons_self
    | cons q u =>
      obtain ⟨t, ht⟩ : ∃ t, t ∈ amF (b ++ q :: u) ls := by
        cases e : amF (b ++ q :: u) ls with
        | nil => rw [e] at h2; cases h2
        | cons t r => exact ⟨t, List.mem_cons_self⟩
      obtain ⟨g1, g2⟩ := am_mem ht
      have hq : q = 48 ∨ q = 49 := (hL.tg t g1).2 q (by
        have : q ∈ t.take (b ++ q :: u).length := by rw [g2]; simp
        exact List.mem_of_mem_take this)
      have e : b ++ q :: u = (b ++ [q]) ++ u := by simp
      refine List.mem_cons_of_mem _ (List.mem_append.mpr ?_)
      rcases hq with rfl | rfl
      · exact .inl (cr_all hL d _ _ (by rw [snoc_len]; omega) (by rw [snoc_len]; omega) ⟨u, e.symm⟩ h2)
      · exact .inr (cr_all hL d _ _ (by rw [snoc_len]; omega) (by rw [snoc_len]; omega) ⟨u, e.symm⟩ h2)
theorem cr_nodup : ∀ d (b : Tag), (crT ls d b).Nodup
  | 0, b => List.nodup_nil
  | d + 1, b => by
    unfold crT
    by_cases hc : 1 < (amF b ls).length
    · rw [if_pos hc, List.nodup_cons, List.nodup_append]
      have long : ∀ q p, p ∈ crT ls d (b ++ [q]) → (b ++ [q]) <+: p := fun q p h => (cr_pre d _ p h).1
      refine ⟨fun h => ?_, cr_nodup d _, cr_nodup d _, fun x hx y hy z => ?_⟩
      · rcases List.mem_append.mp h with y | y
        · have := (long _ _ y).length_le; rw [snoc_len] at this; omega
        · have := (long _ _ y).length_le; rw [snoc_len] at this; omega
      · subst z
        have h1 := List.prefix_iff_eq_take.mp (long _ _ hx)
        have h2 := List.prefix_iff_eq_take.mp (long _ _ hy)
        rw [snoc_len] at h1 h2
        have := List.append_cancel_left (h1.trans h2.symm)
        cases this
    · rw [if_neg hc]; exact List.nodup_nil
end
end K

/-! k04: beginnings, counted in a dict -/
namespace K
open PySem PySem.Spec PyProof.Rows L2 Dl Rl
def keysF (Bs : List Tag) : List Tag := Bs.foldl addT []
theorem keys_s (Bs : List Tag) (b : Tag) : keysF (Bs ++ [b]) = addT (keysF Bs) b := by
  unfold keysF
  rw [List.foldl_append]
  rfl
theorem add_mem {l : List Tag} {b x : Tag} : x ∈ addT l b ↔ x ∈ l ∨ x = b := by
  unfold addT
  split
  · rename_i h
    exact ⟨.inl, fun z => z.elim id fun z => z ▸ h⟩
  · rw [List.mem_append, List.mem_singleton]
theorem add_nodup {l : List Tag} {b : Tag} (h : l.Nodup) : (addT l b).Nodup := by
  unfold addT
  split
  · exact h
  · rename_i hb
    rw [List.nodup_append]
    exact ⟨h, List.pairwise_singleton _ _, fun a ha c hc z => by rw [List.mem_singleton.mp hc] at z; exact hb (z ▸ ha)⟩
theorem keys_ok : ∀ Bs : List Tag, (keysF Bs).Nodup ∧ ∀ x, x ∈ keysF Bs ↔ x ∈ Bs := by
  have key : ∀ (Bs l : List Tag), l.Nodup → (Bs.foldl addT l).Nodup ∧ ∀ x, x ∈ Bs.foldl addT l ↔ x ∈ l ∨ x ∈ Bs := by
    intro Bs
    induction Bs with
    | nil => exact fun l h => ⟨h, fun x => ⟨.inl, fun z => z.elim id fun z => (by cases z)⟩⟩
    | cons b r ih =>
      intro l h
      obtain ⟨h1, h2⟩ := ih (addT l b) (add_nodup h)
      refine ⟨h1, fun x => ?_⟩
      rw [List.foldl_cons, h2 x, add_mem, List.mem_cons, or_assoc]
  intro Bs
  obtain ⟨h1, h2⟩ := key Bs [] List.nodup_nil
  exact ⟨h1, fun x => by rw [show x ∈ keysF Bs ↔ _ from h2 x]; exact ⟨fun z => z.elim (fun z => by cases z) id, .inr⟩⟩
def kyT (b : Tag) : Key := Sum.inr ⟨b.toArray⟩
theorem ky_inj {a b : Tag} : kyT a = kyT b ↔ a = b := ⟨fun h => by injection h with h; exact str_inj h, fun h => by rw [h]⟩
def cntK (Bs : List Tag) : List (Key × PyData) := (keysF Bs).map fun b => (kyT b, .int ((Bs.count b : Nat) : Int))
theorem get_map {l : List Tag} {f : Tag → PyData} {b : Tag} : Dl.getD (l.map fun x => (kyT x, f x)) (kyT b) = if b ∈ l then some (f b) else none := by
  unfold Dl.getD
  induction l with
  | nil => rfl
  | cons a r ih =>
    rw [List.map_cons, List.find?_cons]
    by_cases h : a = b
    · have e : decide ((kyT a, f a).1 = kyT b) = true := decide_eq_true (ky_inj.mpr h)
      rw [e, if_pos (by rw [h]; exact List.mem_cons_self), h]
      rfl
    · have e : decide ((kyT a, f a).1 = kyT b) = false := decide_eq_false fun z => h (ky_inj.mp z)
      rw [e]
      dsimp only
      rw [ih]
      by_cases hb : b ∈ r
      · rw [if_pos hb, if_pos (List.mem_cons_of_mem _ hb)]
      · rw [if_neg hb, if_neg fun z => by
          rcases List.mem_cons.mp z with y | y
          · exact h y.symm
          · exact hb y]
theorem cnt_get (Bs : List Tag) (b : Tag) : (Dl.getD (cntK Bs) (kyT b)).getD (.int 0) = .int ((Bs.count b : Nat) : Int) := by
  unfold cntK
  rw [get_map (f := fun b => .int ((Bs.count b : Nat) : Int))]
  by_cases h : b ∈ keysF Bs
  · rw [if_pos h]
    rfl
  · rw [if_neg h, List.count_eq_zero_of_not_mem fun z => h (((keys_ok Bs).2 b).mpr z)]
    rfl
theorem cnt_put (Bs : List Tag) (b : Tag) : putD (cntK Bs) (kyT b) (.int ((Bs.count b : Nat) + 1 : Int)) = cntK (Bs ++ [b]) := by
  have hc : ∀ x, (Bs ++ [b]).count x = Bs.count x + if x = b then 1 else 0 := fun x => by
    rw [List.count_append, List.count_singleton]
    by_cases h : x = b
    · rw [if_pos h, if_pos (by rw [h]; exact beq_self_eq_true _)]
    · rw [if_neg h, if_neg (fun z => h (beq_iff_eq.mp z).symm)]
  have any : ((cntK Bs).any fun kv => decide (kv.1 = kyT b)) = decide (b ∈ keysF Bs) := by
    unfold cntK
    rw [List.any_map]
    by_cases h : b ∈ keysF Bs
    · rw [decide_eq_true h]
      exact List.any_eq_true.mpr ⟨b, h, decide_eq_true rfl⟩
    · rw [decide_eq_false h]
      refine List.any_eq_false.mpr fun u hu z => h ?_
      have z := ky_inj.mp (of_decide_eq_true z)
      rw [← z]; exact hu
  unfold putD
  rw [any]
  unfold cntK
  rw [keys_s]
  unfold addT
  by_cases h : b ∈ keysF Bs
  · rw [if_pos (decide_eq_true h), if_pos h, List.map_map]
    refine List.map_congr_left fun x _ => ?_
    show (if kyT x = kyT b then _ else _) = _
    rw [hc]
    by_cases hx : x = b
    · rw [if_pos (ky_inj.mpr hx), if_pos hx, hx, Int.natCast_add]
      rfl
    · rw [if_neg (fun z => hx (ky_inj.mp z)), if_neg hx]
      rfl
  · rw [if_neg (by rw [decide_eq_false h]; exact Bool.false_ne_true), if_neg h, List.map_append]
    have h0 : Bs.count b = 0 := List.count_eq_zero_of_not_mem fun z => h (((keys_ok Bs).2 b).mpr z)
    congr 1
    · refine List.map_congr_left fun x hx => ?_
      have hn : ¬ x = b := fun z => h (z ▸ hx)
      rw [hc, if_neg hn]
      rfl
    · rw [List.map_singleton, hc, if_pos rfl, h0]
      rfl
/-- all beginnings of all tags -/
def begF (L : Nat) (ls : List Tag) : List Tag := (ls.map fun t => (List.range (L + 1)).map fun n => t.take n).flatten
theorem beg_one {L : Nat} {t b : Tag} (ht : t.length = L) : ((List.range (L + 1)).map fun n => t.take n).count b = if t.take b.length = b then 1 else 0 := by
  rw [List.count_eq_countP, List.countP_map]
  by_cases h : t.take b.length = b
  · rw [if_pos h]
    have hl : b.length ≤ L := by have := congrArg List.length h; rw [List.length_take] at this; omega
    have e : (List.range (L + 1)).countP ((fun x => x == b) ∘ fun n => t.take n) = (List.range (L + 1)).countP fun n => n == b.length := by
      refine List.countP_congr fun n hn => ?_
      have hn := List.mem_range.mp hn
      show (t.take n == b) = true ↔ (n == b.length) = true
      rw [beq_iff_eq, beq_iff_eq]
      refine ⟨fun z => ?_, fun z => by rw [z]; exact h⟩
      have := congrArg List.length z
      rw [List.length_take] at this
      omega
    rw [e, ← List.count_eq_countP]
    have h1 := List.nodup_iff_count.mp (List.nodup_range (n := L + 1)) b.length
    have h2 := List.count_pos_iff.mpr (List.mem_range.mpr (show b.length < L + 1 by omega))
    omega
  · rw [if_neg h]
    refine List.countP_eq_zero.mpr fun n hn z => h ?_
    have hn := List.mem_range.mp hn
    have z : (t.take n == b) = true := z
    rw [beq_iff_eq] at z
    have hl := congrArg List.length z
    rw [List.length_take, Nat.min_eq_left (by omega)] at hl
    rw [← hl]; exact z
theorem beg_count {L : Nat} {b : Tag} : ∀ {ls : List Tag}, (∀ t ∈ ls, t.length = L) → (begF L ls).count b = (amF b ls).length
  | [], _ => rfl
  | t :: r, h => by
    have ih := beg_count (b := b) (ls := r) fun u hu => h u (List.mem_cons_of_mem _ hu)
    show (_ ++ begF L r).count b = _
    rw [List.count_append, ih, beg_one (h t List.mem_cons_self)]
    unfold amF
    rw [List.filter_cons]
    by_cases hb : t.take b.length = b
    · rw [if_pos hb, if_pos (decide_eq_true hb), List.length_cons]; omega
    · rw [if_neg hb, if_neg (by rw [decide_eq_false hb]; exact Bool.false_ne_true)]; omega
/-- the law's crowded_now -/
def cwF (L : Nat) (ls : List Tag) : List Tag := (keysF (begF L ls)).filter fun b => decide (1 < (amF b ls).length)
theorem cw_perm {L : Nat} {ls : List Tag} (hL : IsLot L ls) : (cwF L ls).Perm (crT ls L []) := by
  unfold cwF
  rw [List.perm_ext_iff_of_nodup ((keys_ok _).1.filter _) (cr_nodup L [])]
  intro b
  rw [List.mem_filter, (keys_ok _).2 b]
  constructor
  · intro h
    exact cr_all hL L [] b (by rw [List.length_nil]; omega) (Nat.zero_le _) (List.nil_prefix) (of_decide_eq_true h.2)
  · intro h
    obtain ⟨_, hc⟩ := cr_pre L [] b h
    refine ⟨?_, decide_eq_true hc⟩
    have hb := many_lt hL hc
    obtain ⟨t, ht⟩ : ∃ t, t ∈ amF b ls := by
      cases e : amF b ls with
      | nil => rw [e] at hc; cases hc
      | cons t r => exact ⟨t, List.mem_cons_self⟩
    obtain ⟨g1, g2⟩ := am_mem ht
    refine List.mem_flatten.mpr ⟨_, List.mem_map.mpr ⟨t, g1, rfl⟩, List.mem_map.mpr ⟨b.length, List.mem_range.mpr (by omega), g2⟩⟩
theorem cw_len {L : Nat} {ls : List Tag} (hL : IsLot L ls) : (cwF L ls).length = (crT ls L []).length ∧ ((cwF L ls).filter (lameB ls)).length = ((crT ls L []).filter (lameB ls)).length :=
  ⟨(cw_perm hL).length_eq, ((cw_perm hL).filter _).length_eq⟩
/-- what the law is told by the three ways -/
theorem due_ok {L : Nat} {ls : List Tag} (hL : IsLot L ls) : (wF ls .plain L []).length = 1 + 2 * (cwF L ls).length ∧ (wF ls .skip L []).length + ((cwF L ls).filter (lameB ls)).length = 1 + 2 * (cwF L ls).length ∧ (wF ls .marks L []).length = max 1 (2 * ls.length - 1) := by
  obtain ⟨e1, e2⟩ := cw_len hL
  rw [e1, e2]
  have h0 : L - ([] : Tag).length = L := rfl
  have p := ask_cr (w := .plain) (fun z => by cases z) hL L [] h0 (Nat.zero_le _)
  have s := ask_cr (w := .skip) (fun z => by cases z) hL L [] h0 (Nat.zero_le _)
  have m := ask_marks hL L [] (Nat.le_refl _) (Nat.zero_le _)
  rw [am_all] at m
  rw [if_neg (fun z => by cases z)] at p
  rw [if_pos rfl] at s
  exact ⟨p, s, m⟩
/-- fewer tags need no more asks -/
theorem sub_lot {L : Nat} {ls ls' : List Tag} (hL : IsLot L ls) (hs : ls'.Sublist ls) : IsLot L ls' := ⟨fun t ht => hL.tg t (hs.subset ht), hL.up.sublist hs⟩
theorem sub_ask {L : Nat} {w : Way} {ls ls' : List Tag} (hL : IsLot L ls) (hs : ls'.Sublist ls) : (wF ls' w L []).length ≤ (wF ls w L []).length := by
  have hL' := sub_lot hL hs
  have sub : ∀ b, (amF b ls').length ≤ (amF b ls).length := fun b => (hs.filter _).length_le
  have h0 : L - ([] : Tag).length = L := rfl
  by_cases hw : w = .marks
  · have m := ask_marks hL L [] (Nat.le_refl _) (Nat.zero_le _)
    have m' := ask_marks hL' L [] (Nat.le_refl _) (Nat.zero_le _)
    rw [am_all] at m m'
    rw [hw, m, m']
    have := hs.length_le
    omega
  · have a := ask_cr hw hL L [] h0 (Nat.zero_le _)
    have a' := ask_cr hw hL' L [] h0 (Nat.zero_le _)
    obtain ⟨c1, c2⟩ := cr_mono sub L []
    by_cases hk : w = .skip
    · rw [if_pos hk] at a a'
      omega
    · rw [if_neg hk] at a a'
      omega
/-- by marks no more than by skip, where there are tags -/
theorem marks_skip {L : Nat} {ls : List Tag} (hL : IsLot L ls) (h : 1 ≤ ls.length) : (wF ls .marks L []).length ≤ (wF ls .skip L []).length := by
  obtain ⟨_, s, m⟩ := due_ok hL
  have c := cr_low hL L [] rfl (Nat.zero_le _) (by rw [am_all]; exact h)
  obtain ⟨e1, e2⟩ := cw_len hL
  rw [am_all] at c
  rw [m]
  omega
end K

/-! k04: no two asks of a walk have one beginning -/
namespace K
open PySem PySem.Spec PyProof.Rows L2 Dl Rl
theorem go_pre4 {w : Way} {b s : Tag} : b <+: goT w b s := by
  unfold goT
  split
  · exact List.prefix_append _ _
  · exact List.prefix_refl _
theorem snoc_no {g x : Tag} (h1 : g ++ [48] <+: x) (h2 : g ++ [49] <+: x) : False := by
  have h1 := List.prefix_iff_eq_take.mp h1
  have h2 := List.prefix_iff_eq_take.mp h2
  rw [snoc_len] at h1 h2
  have := List.append_cancel_left (h1.trans h2.symm)
  cases this
theorem wk_nd {ls : List Tag} {w : Way} : ∀ f, (∀ b, (∀ r ∈ wk ls w f b, b <+: r.1) ∧ ((wk ls w f b).map (·.1)).Nodup) ∧ ∀ b s, (∀ r ∈ bh ls w f b s, b <+: r.1 ∧ b.length < r.1.length) ∧ ((bh ls w f b s).map (·.1)).Nodup
  | 0 => ⟨fun b => ⟨fun r h => (by cases h), List.nodup_nil⟩, fun b s => ⟨fun r h => (by cases h), List.nodup_nil⟩⟩
  | f + 1 => by
    obtain ⟨hw, hb⟩ := wk_nd (ls := ls) (w := w) f
    refine ⟨fun b => ?_, fun b s => ?_⟩
    · obtain ⟨h1, h2⟩ := hb b (hearO ls b)
      refine ⟨fun r hr => ?_, ?_⟩
      · rcases List.mem_cons.mp hr with z | z
        · rw [z]; exact List.prefix_refl _
        · exact (h1 r z).1
      · show (b :: (bh ls w f b (hearO ls b)).map (·.1)).Nodup
        rw [List.nodup_cons]
        refine ⟨fun z => ?_, h2⟩
        obtain ⟨r, hr, e⟩ := List.mem_map.mp z
        have := (h1 r hr).2
        rw [e] at this
        omega
    · cases s with
      | none => exact ⟨fun r h => (by cases h), List.nodup_nil⟩
      | some s =>
        unfold bh
        by_cases hx : 120 ∈ s
        · rw [if_pos hx]
          have g0 := hw (goT w b s ++ [48])
          have g1 : (∀ r ∈ (if w = .skip ∧ hearO ls (goT w b s ++ [48]) = none then bh ls w f (goT w b s ++ [49]) (some [120]) else wk ls w f (goT w b s ++ [49])), goT w b s ++ [49] <+: r.1) ∧ ((if w = .skip ∧ hearO ls (goT w b s ++ [48]) = none then bh ls w f (goT w b s ++ [49]) (some [120]) else wk ls w f (goT w b s ++ [49])).map (·.1)).Nodup := by
            split
            · exact ⟨fun r hr => ((hb _ _).1 r hr).1, (hb _ _).2⟩
            · exact hw _
          have ext : ∀ q, ∀ x : Tag, goT w b s ++ [q] <+: x → b <+: x ∧ b.length < x.length := fun q x h => by
            have hp : b <+: goT w b s ++ [q] := go_pre4.trans (List.prefix_append _ _)
            have l1 := (go_pre4 (w := w) (b := b) (s := s)).length_le
            have l2 := h.length_le
            rw [snoc_len] at l2
            exact ⟨hp.trans h, by omega⟩
          generalize (if w = .skip ∧ hearO ls (goT w b s ++ [48]) = none then bh ls w f (goT w b s ++ [49]) (some [120]) else wk ls w f (goT w b s ++ [49])) = R at g1
          refine ⟨fun r hr => ?_, ?_⟩
          · rcases List.mem_append.mp hr with z | z
            · exact ext 48 _ (g0.1 r z)
            · exact ext 49 _ (g1.1 r z)
          · rw [List.map_append, List.nodup_append]
            refine ⟨g0.2, g1.2, fun x hx y hy z => ?_⟩
            obtain ⟨r, hr, rfl⟩ := List.mem_map.mp hx
            obtain ⟨r2, hr2, e⟩ := List.mem_map.mp hy
            rw [← z] at e
            exact snoc_no (g0.1 r hr) (by rw [← e]; exact g1.1 r2 hr2)
        · rw [if_neg hx]
          exact ⟨fun r h => (by cases h), List.nodup_nil⟩
theorem walk_nd {ls : List Tag} {w : Way} {n : Nat} {b : Tag} : ((wF ls w n b).map (·.1)).Nodup := ((wk_nd _).1 b).2
/-! where the tags are told -/
def posF {α β : Type} (f : α → Option β) : Nat → List α → List Nat
  | _, [] => []
  | o, a :: r => match f a with
    | some _ => o :: posF f (o + 1) r
    | none => posF f (o + 1) r
theorem pos_ge {α β : Type} {f : α → Option β} : ∀ {l : List α} {o : Nat}, ∀ x ∈ posF f o l, o ≤ x
  | [], o, x, h => by cases h
  | a :: r, o, x, h => by
    unfold posF at h
    split at h
    · rcases List.mem_cons.mp h with z | z
      · omega
      · have := pos_ge x z; omega
    · have := pos_ge x h; omega
theorem pos_up {α β : Type} {f : α → Option β} : ∀ {l : List α} {o : Nat}, (posF f o l).Pairwise (· < ·)
  | [], o => List.Pairwise.nil
  | a :: r, o => by
    unfold posF
    split
    · exact List.pairwise_cons.mpr ⟨fun x hx => by have := pos_ge x hx; omega, pos_up⟩
    · exact pos_up
theorem pos_at {α β : Type} {f : α → Option β} : ∀ {l : List α} {o i : Nat} {t : β}, (l.filterMap f)[i]? = some t → ∃ j a, (posF f o l)[i]? = some (o + j) ∧ l[j]? = some a ∧ f a = some t
  | [], o, i, t, h => by cases h
  | a :: r, o, i, t, h => by
    rw [List.filterMap_cons] at h
    unfold posF
    cases e : f a with
    | none =>
      rw [e] at h
      obtain ⟨j, b, h1, h2, h3⟩ := pos_at (o := o + 1) h
      exact ⟨j + 1, b, by rw [show o + (j + 1) = o + 1 + j by omega]; exact h1, h2, h3⟩
    | some u =>
      rw [e] at h
      cases i with
      | zero =>
        cases h
        exact ⟨0, a, rfl, rfl, e⟩
      | succ i =>
        obtain ⟨j, b, h1, h2, h3⟩ := pos_at (o := o + 1) (i := i) h
        exact ⟨j + 1, b, by rw [show o + (j + 1) = o + 1 + j by omega]; exact h1, h2, h3⟩
/-! turned lots -/
def flT (t : Tag) : Tag := t.map fun q => 97 - q
theorem fl_snoc (b : Tag) (q : Nat) : flT (b ++ [q]) = flT b ++ [97 - q] := by
  unfold flT
  rw [List.map_append]
  rfl
theorem cr_turn {ls ls' : List Tag} (h : ∀ b : Tag, (∀ q ∈ b, q = 48 ∨ q = 49) → (amF (flT b) ls').length = (amF b ls).length) : ∀ d (b : Tag), (∀ q ∈ b, q = 48 ∨ q = 49) → (crT ls' d (flT b)).length = (crT ls d b).length
  | 0, b, _ => rfl
  | d + 1, b, hb => by
    have sg : ∀ c : Nat, (c = 48 ∨ c = 49) → ∀ q ∈ b ++ [c], q = 48 ∨ q = 49 := fun c hc q hq => by
      rcases List.mem_append.mp hq with z | z
      · exact hb q z
      · rw [List.mem_singleton.mp z]; exact hc
    have i0 := cr_turn h d (b ++ [48]) (sg 48 (.inl rfl))
    have i1 := cr_turn h d (b ++ [49]) (sg 49 (.inr rfl))
    rw [fl_snoc, show 97 - 48 = 49 from rfl] at i0
    rw [fl_snoc, show 97 - 49 = 48 from rfl] at i1
    unfold crT
    rw [h b hb]
    by_cases hc : 1 < (amF b ls).length
    · rw [if_pos hc, if_pos hc, List.length_cons, List.length_cons, List.length_append, List.length_append, i0, i1]
      omega
    · rw [if_neg hc, if_neg hc]
theorem fl_fl : ∀ {t : Tag}, (∀ q ∈ t, q = 48 ∨ q = 49) → flT (flT t) = t
  | [], _ => rfl
  | q :: t, h => by
    show (97 - (97 - q)) :: flT (flT t) = _
    rw [fl_fl fun x hx => h x (List.mem_cons_of_mem _ hx)]
    rcases h q List.mem_cons_self with z | z <;> rw [z]
theorem fl_inj {a b : Tag} (ha : ∀ q ∈ a, q = 48 ∨ q = 49) (hb : ∀ q ∈ b, q = 48 ∨ q = 49) (h : flT a = flT b) : a = b := by
  rw [← fl_fl ha, h, fl_fl hb]
theorem am_turn {L : Nat} {ls : List Tag} (hL : ∀ t ∈ ls, IsTag L t) {b : Tag} (hb : ∀ q ∈ b, q = 48 ∨ q = 49) : (amF (flT b) (sortS (ls.map flT))).length = (amF b ls).length := by
  unfold amF
  rw [((sortS_perm (ls.map flT)).filter _).length_eq, List.filter_map, List.length_map]
  congr 1
  refine List.filter_congr fun t ht => ?_
  show decide ((flT t).take (flT b).length = flT b) = decide (t.take b.length = b)
  have e1 : (flT b).length = b.length := List.length_map ..
  have e2 : (flT t).take b.length = flT (t.take b.length) := by unfold flT; rw [List.map_take]
  rw [e1, e2]
  by_cases h : t.take b.length = b
  · rw [decide_eq_true h, h, decide_eq_true rfl]
  · rw [decide_eq_false h, decide_eq_false fun z => h (fl_inj (fun q hq => (hL t ht).2 q (List.mem_of_mem_take hq)) hb z)]
theorem fl_tag {L : Nat} {t : Tag} (h : IsTag L t) : IsTag L (flT t) := ⟨by unfold flT; rw [List.length_map]; exact h.1, fun q hq => by
  obtain ⟨x, hx, rfl⟩ := List.mem_map.mp hq
  rcases h.2 x hx with z | z <;> rw [z]
  · exact .inr rfl
  · exact .inl rfl⟩
/-- a turned lot is a lot, and needs as many asks, plainly and by marks -/
theorem turn_lot {L : Nat} {ls : List Tag} (hL : IsLot L ls) : IsLot L (sortS (ls.map flT)) := by
  have hp := sortS_perm (ls.map flT)
  have hn : (sortS (ls.map flT)).Nodup := hp.nodup_iff.mpr (by
    have hd := lot_nodup hL
    rw [List.Nodup, List.pairwise_map]
    exact hd.imp_of_mem fun {a b} ha hb h z => h (fl_inj (hL.tg a ha).2 (hL.tg b hb).2 z))
  refine ⟨fun t ht => ?_, ?_⟩
  · obtain ⟨u, hu, rfl⟩ := List.mem_map.mp (hp.mem_iff.mp ht)
    exact fl_tag (hL.tg u hu)
  · refine (List.Pairwise.and (sortS_pw (ls.map flT)) hn).imp fun {a b} h => ?_
    have q : a ≤ b := by
      have := h.1
      unfold leS at this
      rw [Bool.not_eq_true', decide_eq_false_iff_not] at this
      exact List.not_lt.mp this
    rcases List.le_iff_lt_or_eq.mp q with z | z
    · exact z
    · exact absurd z h.2
theorem turn_ask {L : Nat} {ls : List Tag} (hL : IsLot L ls) : (wF (sortS (ls.map flT)) .plain L []).length = (wF ls .plain L []).length ∧ (wF (sortS (ls.map flT)) .marks L []).length = (wF ls .marks L []).length := by
  have hT := turn_lot hL
  have p := ask_cr (w := .plain) (fun z => by cases z) hL L [] rfl (Nat.zero_le _)
  have p' := ask_cr (w := .plain) (fun z => by cases z) hT L [] rfl (Nat.zero_le _)
  have m := ask_marks hL L [] (Nat.le_refl _) (Nat.zero_le _)
  have m' := ask_marks hT L [] (Nat.le_refl _) (Nat.zero_le _)
  have c := cr_turn (ls := ls) (ls' := sortS (ls.map flT)) (fun b hb => am_turn hL.tg hb) L [] (fun q hq => by cases hq)
  rw [am_all] at m m'
  rw [if_neg (fun z => by cases z)] at p p'
  have l := (sortS_perm (ls.map flT)).length_eq
  rw [List.length_map] at l
  refine ⟨?_, by rw [m, m', l]⟩
  have c : (crT (sortS (ls.map flT)) L []).length = (crT ls L []).length := c
  omega
theorem pos_one {α β : Type} {f : α → Option β} {t : β} : ∀ {l : List α} {i j : Nat} {a a' : α}, (l.filterMap f).Nodup → l[i]? = some a → l[j]? = some a' → f a = some t → f a' = some t → i = j
  | [], i, j, a, a', _, h, _, _, _ => by cases h
  | x :: r, 0, 0, a, a', _, _, _, _, _ => rfl
  | x :: r, 0, j + 1, a, a', hn, h1, h2, e1, e2 => by
    cases h1
    rw [List.filterMap_cons, e1] at hn
    exact absurd (List.mem_filterMap.mpr ⟨a', List.mem_of_getElem? (by simpa using h2), e2⟩) (List.nodup_cons.mp hn).1
  | x :: r, i + 1, 0, a, a', hn, h1, h2, e1, e2 => by
    cases h2
    rw [List.filterMap_cons, e2] at hn
    exact absurd (List.mem_filterMap.mpr ⟨a, List.mem_of_getElem? (by simpa using h1), e1⟩) (List.nodup_cons.mp hn).1
  | x :: r, i + 1, j + 1, a, a', hn, h1, h2, e1, e2 => by
    rw [List.getElem?_cons_succ] at h1 h2
    have hr : (r.filterMap f).Nodup := by
      rw [List.filterMap_cons] at hn
      split at hn
      · exact hn
      · exact (List.nodup_cons.mp hn).2
    rw [pos_one hr h1 h2 e1 e2]
end K

/-! k04: every second tag, places that rise, signs turned -/
namespace K
open PySem PySem.Spec PyProof.Rows L2 Dl Rl
theorem pickM {α β : Type} (f : α → β) (xs : List α) : ∀ is : List Nat, pickAt (xs.map f) is = (pickAt xs is).map f
  | [] => rfl
  | i :: is => by
    have ih := pickM f xs is
    unfold pickAt at ih ⊢
    by_cases hi : i < xs.length
    · rw [List.filterMap_cons_some (b := f xs[i]) (by rw [List.getElem?_map, List.getElem?_eq_getElem hi]; rfl), List.filterMap_cons_some (b := xs[i]) (List.getElem?_eq_getElem hi), List.map_cons, ih]
    · rw [List.filterMap_cons_none (by rw [List.getElem?_map, List.getElem?_eq_none (by omega)]; rfl), List.filterMap_cons_none (List.getElem?_eq_none (by omega)), ih]
theorem pick_all {α : Type} : ∀ xs : List α, pickAt xs (List.range xs.length) = xs
  | [] => rfl
  | a :: l => by
    have ih := pick_all l
    unfold pickAt at ih ⊢
    rw [List.length_cons, List.range_succ_eq_map, List.filterMap_cons_some (f := ((a :: l)[·]?)) (a := 0) (b := a) rfl, List.filterMap_map]
    exact congrArg (a :: ·) ih
theorem half_few : ∀ n : Fin 41, stN none none 2 n.1 ≤ n.1 ∧ (stIx none none 2 n.1).isSublist (List.range n.1) = true := by decide +kernel
theorem stF_half {lot : List Tag} (hl : lot.length ≤ 40) : ∃ p : List Tag, stF (.tuple (lot.map S)) none none 2 = some (.tuple (p.map S)) ∧ p.Sublist lot := by
  have hf := half_few ⟨lot.length, by omega⟩
  refine ⟨pickAt lot (stIx none none 2 lot.length), ?_, ?_⟩
  · show (if (2 : Int) ≠ 0 ∧ stN none none 2 (lot.map S).length ≤ (lot.map S).length then some (PyData.tuple (stepPick (lot.map S) none none 2)) else none) = _
    rw [List.length_map, if_pos ⟨by decide, hf.1⟩]
    unfold stepPick
    rw [if_neg (by unfold stW; simp), pickM, List.length_map]
  · have h2 := (List.isSublist_iff_sublist.mp hf.2).filterMap (lot[·]?)
    have h3 := pick_all lot
    unfold pickAt at h3 ⊢
    rw [h3] at h2
    exact h2
/-! the places where the tags are told -/
theorem pos_lt {α β : Type} {f : α → Option β} : ∀ {l : List α} {o : Nat}, ∀ x ∈ posF f o l, x < o + l.length
  | [], o, x, h => by cases h
  | a :: r, o, x, h => by
    rw [List.length_cons]
    unfold posF at h
    split at h
    · rcases List.mem_cons.mp h with z | z
      · omega
      · have := pos_lt x z; omega
    · have := pos_lt x h; omega
theorem pos_len {α β : Type} {f : α → Option β} : ∀ {l : List α} {o : Nat}, (posF f o l).length = (l.filterMap f).length
  | [], o => rfl
  | a :: r, o => by
    have ih := pos_len (f := f) (l := r) (o := o + 1)
    unfold posF
    rw [List.filterMap_cons]
    split
    · rename_i b e
      rw [List.length_cons, ih, e]
      rfl
    · rename_i e
      rw [ih, e]
theorem cut_one {α : Type} {xs : List α} {j : Nat} {x : α} (h : xs[j]? = some x) : cut xs (some (j : Int)) (some ((j : Int) + 1)) = [x] := by
  obtain ⟨hj, e⟩ := List.getElem?_eq_some_iff.mp h
  unfold cut
  rw [show ((j : Int) + 1) = ((j + 1 : Nat) : Int) by omega, HT.sIx_nat, HT.sIx_nat, Nat.min_eq_left (by omega), Nat.min_eq_left (by omega), show j + 1 - j = 1 by omega, List.drop_eq_getElem_cons hj, List.take_succ_cons, List.take_zero, e]
def plR (rs : List Row) (t : Tag) : Nat := rs.findIdx fun r => decide (toldR r = some t)
theorem pl_at {rs : List Row} {t : Tag} (h : t ∈ toldF rs) : ∃ r, rs[plR rs t]? = some r ∧ toldR r = some t ∧ ∀ i r', i < plR rs t → rs[i]? = some r' → toldR r' ≠ some t := by
  obtain ⟨r0, h1, h2⟩ := List.mem_filterMap.mp h
  have hl : plR rs t < rs.length := List.findIdx_lt_length_of_exists ⟨r0, h1, decide_eq_true h2⟩
  refine ⟨rs[plR rs t], List.getElem?_eq_getElem hl, of_decide_eq_true (List.findIdx_getElem (w := hl)), fun i r' hi e z => ?_⟩
  have := List.not_of_lt_findIdx hi
  obtain ⟨hj, e⟩ := List.getElem?_eq_some_iff.mp e
  rw [e, decide_eq_true z] at this
  cases this
theorem pl_all {rs : List Row} (hn : (toldF rs).Nodup) : (toldF rs).map (fun t => plR rs t + 1) = posF toldR 1 rs := by
  refine List.ext_getElem? fun i => ?_
  rw [List.getElem?_map]
  cases e : (toldF rs)[i]? with
  | none =>
    have h1 := List.getElem?_eq_none_iff.mp e
    have h2 := pos_len (f := toldR) (l := rs) (o := 1)
    rw [List.getElem?_eq_none (by rw [h2]; exact h1)]
    rfl
  | some t =>
    obtain ⟨j, a, h1, h2, h3⟩ := pos_at (o := 1) e
    obtain ⟨r, g1, g2, -⟩ := pl_at (List.mem_of_getElem? e)
    rw [h1]
    show some (plR rs t + 1) = _
    rw [pos_one hn g1 h2 g2 h3, Nat.add_comm]
theorem toldD_up {rs : List Row} (hn : (toldF rs).Nodup) : ((toldF rs).map fun t => plR rs t + 1).Pairwise (· < ·) := by rw [pl_all hn]; exact pos_up
/-! sets of numbers -/
theorem okSort_n : ∀ l : List Nat, okSort (l.map fun s : Nat => PyData.int ((s : Nat) : Int)) = true := fun l => by
  have lay : PyData.canLayAll0 (l.map fun s : Nat => PyData.int ((s : Nat) : Int)) = true := by
    induction l with
    | nil => rfl
    | cons a r ih => exact ih
  unfold okSort
  rw [lay]
  simp only [Bool.and_true, Bool.and_eq_true, Bool.or_eq_true, List.all_eq_true, List.mem_map, forall_exists_index, and_imp, forall_apply_eq_imp_iff₂]
  exact ⟨⟨fun a _ b _ => rfl, .inr fun a _ => rfl⟩, fun a _ => decide_eq_true (Nat.zero_le _)⟩
theorem sortSet_n {l : List Nat} (h : l.Pairwise (· < ·)) (hl : l.length < 3000) : fSortSet (.list (l.map fun s : Nat => .int ((s : Nat) : Int))) = some (.list (l.map fun s : Nat => .int ((s : Nat) : Int))) := by
  have hk : keysD (l.map fun s : Nat => PyData.int ((s : Nat) : Int)) = some (l.map fun s : Nat => (Sum.inl ((s : Nat) : Int) : Key)) := by
    have := keysD_of (l.map fun s : Nat => (Sum.inl ((s : Nat) : Int) : Key))
    rwa [List.map_map] at this
  have hn : (l.map fun s : Nat => (Sum.inl ((s : Nat) : Int) : Key)).Nodup := by
    rw [List.Nodup, List.pairwise_map]
    refine h.imp fun {a b} hab z => ?_
    injection z with z
    omega
  have hs : setL (l.map fun s : Nat => PyData.int ((s : Nat) : Int)) = some (l.map fun s : Nat => PyData.int ((s : Nat) : Int)) := by
    unfold setL
    rw [hk]
    dsimp only
    rw [if_pos (by rw [List.length_map]; exact hl), nub_id hn, List.map_map]
    rfl
  show (match setL (l.map fun s : Nat => PyData.int ((s : Nat) : Int)) with | some es => if okSort es = true then some (PyData.list (sortD es)) else none | none => none) = _
  rw [hs]
  dsimp only
  rw [if_pos (okSort_n l)]
  congr 2
  unfold sortD
  refine List.mergeSort_of_pairwise ?_
  rw [List.pairwise_map]
  refine h.imp fun {a b} hab => ?_
  have := congrFun (congrFun (PySem.W.dataLe_int (fun s : Nat => (s : Int))) a) b
  show PySem.W.dataLe false (fun s : Nat => PyData.int (s : Int)) a b = true
  rw [this]
  exact decide_eq_true (by omega)
/-! turned signs -/
theorem turn_sign {q : Nat} (h : q = 48 ∨ q = 49) : atI ([49, 48] : List Nat) ((q : Int) - 48) = some (97 - q) := by
  rcases h with rfl | rfl <;> rfl
end K

namespace K
open PySem PySem.Spec PyProof.Rows L2 Dl Rl
def topS (i : Nat) : Stmt := PySem.Challenge.pw_tagasks_k04_whole_walks.main.body.getD i (.Pass ⟨0, 0, 0, 0⟩)
def k_FIRST : PyData := .tuple [.tuple [S [], .bool false]]
structure Bl (M : Md) : Prop where
  ValueError : M.mg "ValueError" = none
  tuple : M.mg "tuple" = none
  len : M.mg "len" = none
  enumerate : M.mg "enumerate" = none
  range : M.mg "range" = none
  min : M.mg "min" = none
  max : M.mg "max" = none
  sorted : M.mg "sorted" = none
  str : M.mg "str" = none
  set : M.mg "set" = none
  zip : M.mg "zip" = none
  int : M.mg "int" = none
  FIRST : ∃ a, M.mg "FIRST" = some (.ref a) ∧ ∀ B, Dq M.K B (.ref a) k_FIRST
structure Ex (M : Md) (TE : Addr) (xa : Nat → Addr) : Prop where
  m_TE : M.mg "TagError" = some (.ref TE)
  m_NT : M.mg "NoTag" = some (.ref (xa 0))
  x_NT : Exc M "NoTag" (xa 0) bmV
  e_NT : PySem.W.exmOne M.K (.ref (xa 0)) (.ref TE) = some true
def nm : Nat → Option Str
  | 0 => some "among"
  | 1 => some "blurred"
  | 2 => some "heard"
  | 3 => some "grown"
  | 4 => some "after"
  | 5 => some "walk"
  | 6 => some "told"
  | 7 => some "asks"
  | 8 => some "first_at"
  | 9 => some "_law_cell"
  | 10 => some "_law_mix"
  | 11 => some "_law_tag"
  | 12 => some "_law_two"
  | 13 => some "_law_long"
  | 14 => some "_law_lot"
  | _ => none
abbrev s_among : Stmt := topS 4
abbrev n_among : List Str := ["lot", "beginning", "tag"]
theorem sc_among : FnScope n_among ["lot", "beginning"] (defScope s_among) := ⟨rfl, rfl, rfl, by decide +kernel, rfl, by decide +kernel, by decide +kernel⟩
def b_among (call : RC) : RS :=
  (sSeq (sRet (rB1 fTuple (aCons (rOf (rLc [2] (.nm 2) (iLst (rVar 0)) (tCmp cEq (rSl (rVar 2) oN (oS (rB1 fLen (aCons (rVar 1) aNil)))) (rVar 1)) (rVar 2))) aNil)))
  sNil)
abbrev s_blurred : Stmt := topS 5
abbrev n_blurred : List Str := ["signs"]
theorem sc_blurred : FnScope n_blurred ["signs"] (defScope s_blurred) := ⟨rfl, rfl, rfl, by decide +kernel, rfl, by decide +kernel, by decide +kernel⟩
def b_blurred (call : RC) : RS :=
  (sSeq (sIf (tCmp cEq (rB1 fMin (aCons (rVar 0) aNil)) (rB1 fMax (aCons (rVar 0) aNil)))
  (sSeq (sRet (rBin fIt (rVar 0) (rK (.int 0))))
  sNil)
  sNil)
  (sSeq (sRet (rK (S [120])))
  sNil))
abbrev s_heard : Stmt := topS 6
abbrev n_heard : List Str := ["lot", "beginning", "some", "k", "tag"]
theorem sc_heard : FnScope n_heard ["lot", "beginning"] (defScope s_heard) := ⟨rfl, rfl, rfl, by decide +kernel, rfl, by decide +kernel, by decide +kernel⟩
def b_heard (call : RC) : RS :=
  (sSeq (sSet 2 (rCall call 0 (aCons (rVar 0) (aCons (rVar 1) aNil))))
  (sSeq (sIf (tNot (tTru (rVar 2)))
  (sSeq (sRet (rK .none))
  sNil)
  sNil)
  (sSeq (sRet (rV2 fJoin (rK (S [])) (rOf (rLc [3] (.nm 3) (iRng2 (rB1 fLen (aCons (rVar 1) aNil)) (rB1 fLen (aCons (rBin fIt (rVar 2) (rK (.int 0))) aNil))) tYes (rCall call 1 (aCons (rOf (rLc [4] (.nm 4) (iLst (rVar 2)) tYes (rBin fIt (rVar 4) (rVar 3)))) aNil))))))
  sNil)))
abbrev s_grown : Stmt := topS 9
abbrev n_grown : List Str := ["beginning"]
theorem sc_grown : FnScope n_grown ["beginning"] (defScope s_grown) := ⟨rfl, rfl, rfl, by decide +kernel, rfl, by decide +kernel, by decide +kernel⟩
def b_grown (call : RC) : RS :=
  (sSeq (sRet (rTup (aCons (rTup (aCons (rBin fAdd (rVar 0) (rK (S [48]))) (aCons (rK (.bool true)) aNil))) (aCons (rTup (aCons (rBin fAdd (rVar 0) (rK (S [49]))) (aCons (rK (.bool false)) aNil))) aNil))))
  sNil)
abbrev s_after : Stmt := topS 10
abbrev n_after : List Str := ["entry", "sound", "rest", "way", "long", "beginning", "is_first"]
theorem sc_after : FnScope n_after ["entry", "sound", "rest", "way", "long"] (defScope s_after) := ⟨rfl, rfl, rfl, by decide +kernel, rfl, by decide +kernel, by decide +kernel⟩
def b_after (call : RC) : RS :=
  (sSeq (sAsg (.tp [5, 6]) (rVar 0))
  (sSeq (sIf (tCmp cIs (rVar 1) (rK .none))
  (sSeq (sIf (tAnd (tTru (rVar 6)) (tAnd (tCmp cEq (rVar 3) (rK (S [115, 107, 105, 112]))) (tCmp cLt (rB1 fLen (aCons (rVar 5) aNil)) (rVar 4))))
  (sSeq (sRet (rBin fAdd (rCall call 3 (aCons (rBin fIt (rBin fIt (rVar 2) (rK (.int 0))) (rK (.int 0))) aNil)) (rSl (rVar 2) (oS (rK (.int 1))) oN)))
  sNil)
  sNil)
  (sSeq (sRet (rVar 2))
  sNil))
  sNil)
  (sSeq (sIf (tCmp cNi (rK (S [120])) (rVar 1))
  (sSeq (sRet (rVar 2))
  sNil)
  sNil)
  (sSeq (sIf (tCmp cEq (rVar 3) (rK (S [109, 97, 114, 107, 115])))
  (sSeq (sSet 5 (rBin fAdd (rVar 5) (rSl (rVar 1) oN (oS (rV2 fIndex (rVar 1) (rK (S [120])))))))
  sNil)
  sNil)
  (sSeq (sRet (rBin fAdd (rCall call 3 (aCons (rVar 5) aNil)) (rVar 2)))
  sNil)))))
abbrev s_walk : Stmt := topS 11
abbrev n_walk : List Str := ["lot", "way", "long", "left", "found", "sound"]
theorem sc_walk : FnScope n_walk ["lot", "way"] (defScope s_walk) := ⟨rfl, rfl, rfl, by decide +kernel, rfl, by decide +kernel, by decide +kernel⟩
def b_walk (call : RC) : RS :=
  (sSeq (sSet 2 (rIf (tTru (rVar 0)) (rB1 fLen (aCons (rBin fIt (rVar 0) (rK (.int 0))) aNil)) (rK (.int 1))))
  (sSeq (sSet 3 (rK k_FIRST))
  (sSeq (sNew 4 (nLst aNil))
  (sSeq (sWhl 100000 (tTru (rVar 3))
  (sSeq (sSet 5 (rCall call 2 (aCons (rVar 0) (aCons (rBin fIt (rBin fIt (rVar 3) (rK (.int 0))) (rK (.int 0))) aNil))))
  (sSeq (sApp 4 (rTup (aCons (rBin fIt (rBin fIt (rVar 3) (rK (.int 0))) (rK (.int 0))) (aCons (rVar 5) aNil))))
  (sSeq (sSet 3 (rCall call 4 (aCons (rBin fIt (rVar 3) (rK (.int 0))) (aCons (rVar 5) (aCons (rSl (rVar 3) (oS (rK (.int 1))) oN) (aCons (rVar 1) (aCons (rVar 2) aNil)))))))
  sNil))))
  (sSeq (sRet (rBor (rB1 fTuple (aCons (rVar 4) aNil))))
  sNil)))))
abbrev s_told : Stmt := topS 12
abbrev n_told : List Str := ["rows", "beginning", "sound"]
theorem sc_told : FnScope n_told ["rows"] (defScope s_told) := ⟨rfl, rfl, rfl, by decide +kernel, rfl, by decide +kernel, by decide +kernel⟩
def b_told (call : RC) : RS :=
  (sSeq (sRet (rB1 fTuple (aCons (rOf (rLc [1, 2] (.tp [1, 2]) (iLst (rVar 0)) (tAnd (tCmp cNis (rVar 2) (rK .none)) (tCmp cNi (rK (S [120])) (rVar 2))) (rBin fAdd (rVar 1) (rVar 2)))) aNil)))
  sNil)
abbrev s_asks : Stmt := topS 13
abbrev n_asks : List Str := ["lot", "way"]
theorem sc_asks : FnScope n_asks ["lot", "way"] (defScope s_asks) := ⟨rfl, rfl, rfl, by decide +kernel, rfl, by decide +kernel, by decide +kernel⟩
def b_asks (call : RC) : RS :=
  (sSeq (sRet (rB1 fLen (aCons (rCall call 5 (aCons (rVar 0) (aCons (rVar 1) aNil))) aNil)))
  sNil)
abbrev s_first_at : Stmt := topS 14
abbrev n_first_at : List Str := ["lot", "way", "tag", "k", "row"]
theorem sc_first_at : FnScope n_first_at ["lot", "way", "tag"] (defScope s_first_at) := ⟨rfl, rfl, rfl, by decide +kernel, rfl, by decide +kernel, by decide +kernel⟩
def b_first_at (call : RC) : RS :=
  (sSeq (sFor (.tp [3, 4]) (iEnum (rCall call 5 (aCons (rVar 0) (aCons (rVar 1) aNil))))
  (sSeq (sIf (tCmp cEq (rCall call 6 (aCons (rTup (aCons (rVar 4) aNil)) aNil)) (rTup (aCons (rVar 2) aNil)))
  (sSeq (sRet (rBin fAdd (rVar 3) (rK (.int 1))))
  sNil)
  sNil)
  sNil))
  (sSeq (sRaise 0)
  sNil))
abbrev s__law_cell : Stmt := topS 16
abbrev n__law_cell : List Str := ["script", "k"]
theorem sc__law_cell : FnScope n__law_cell ["script", "k"] (defScope s__law_cell) := ⟨rfl, rfl, rfl, by decide +kernel, rfl, by decide +kernel, by decide +kernel⟩
def b__law_cell (call : RC) : RS :=
  (sSeq (sIf (tCmp cLt (rVar 1) (rB1 fLen (aCons (rVar 0) aNil)))
  (sSeq (sRet (rBin fIt (rVar 0) (rVar 1)))
  sNil)
  sNil)
  (sSeq (sRet (rK (.int 0)))
  sNil))
abbrev s__law_mix : Stmt := topS 17
abbrev n__law_mix : List Str := ["cell", "prime", "many", "blend"]
theorem sc__law_mix : FnScope n__law_mix ["cell", "prime", "many"] (defScope s__law_mix) := ⟨rfl, rfl, rfl, by decide +kernel, rfl, by decide +kernel, by decide +kernel⟩
def b__law_mix (call : RC) : RS :=
  (sSeq (sSet 3 (rBin fMod (rBin fMul (rVar 0) (rK (.int 48271))) (rVar 1)))
  (sSeq (sRet (rBin fMod (rBin fMod (rBin fMul (rVar 3) (rBin fAdd (rVar 3) (rK (.int 7)))) (rVar 1)) (rVar 2)))
  sNil))
abbrev s__law_tag : Stmt := topS 18
abbrev n__law_tag : List Str := ["place", "long", "gathered", "k"]
theorem sc__law_tag : FnScope n__law_tag ["place", "long"] (defScope s__law_tag) := ⟨rfl, rfl, rfl, by decide +kernel, rfl, by decide +kernel, by decide +kernel⟩
def b__law_tag (call : RC) : RS :=
  (sSeq (sSet 2 (rK (S [])))
  (sSeq (sFor (.nm 3) (iRng1 (rVar 1))
  (sSeq (sSet 2 (rBin fAdd (rB1 fStr (aCons (rBin fMod (rVar 0) (rK (.int 2))) aNil)) (rVar 2)))
  (sSeq (sSet 0 (rBin fDiv (rVar 0) (rK (.int 2))))
  sNil)))
  (sSeq (sRet (rVar 2))
  sNil)))
abbrev s__law_two : Stmt := topS 19
abbrev n__law_two : List Str := ["long", "whole", "k"]
theorem sc__law_two : FnScope n__law_two ["long"] (defScope s__law_two) := ⟨rfl, rfl, rfl, by decide +kernel, rfl, by decide +kernel, by decide +kernel⟩
def b__law_two (call : RC) : RS :=
  (sSeq (sSet 1 (rK (.int 1)))
  (sSeq (sFor (.nm 2) (iRng1 (rVar 0))
  (sSeq (sSet 1 (rBin fMul (rVar 1) (rK (.int 2))))
  sNil))
  (sSeq (sRet (rVar 1))
  sNil)))
abbrev s__law_long : Stmt := topS 20
abbrev n__law_long : List Str := ["cell"]
theorem sc__law_long : FnScope n__law_long ["cell"] (defScope s__law_long) := ⟨rfl, rfl, rfl, by decide +kernel, rfl, by decide +kernel, by decide +kernel⟩
def b__law_long (call : RC) : RS :=
  (sSeq (sRet (rIf (tCmp cEq (rCall call 10 (aCons (rVar 0) (aCons (rK (.int 9967)) (aCons (rK (.int 3)) aNil)))) (rK (.int 0))) (rBin fAdd (rK (.int 1)) (rCall call 10 (aCons (rVar 0) (aCons (rK (.int 9973)) (aCons (rK (.int 10)) aNil))))) (rBin fAdd (rK (.int 3)) (rCall call 10 (aCons (rVar 0) (aCons (rK (.int 9949)) (aCons (rK (.int 4)) aNil)))))))
  sNil)
abbrev s__law_lot : Stmt := topS 21
abbrev n__law_lot : List Str := ["cell", "long", "most", "whole", "is_near", "base", "rows", "k", "seed", "place"]
theorem sc__law_lot : FnScope n__law_lot ["cell", "long", "most"] (defScope s__law_lot) := ⟨rfl, rfl, rfl, by decide +kernel, rfl, by decide +kernel, by decide +kernel⟩
def b__law_lot (call : RC) : RS :=
  (sSeq (sPar [3, 4] (aCons (rCall call 12 (aCons (rVar 1) aNil)) (aCons (rB (tCmp cEq (rCall call 10 (aCons (rVar 0) (aCons (rK (.int 9941)) (aCons (rK (.int 3)) aNil)))) (rK (.int 0)))) aNil)))
  (sSeq (sSet 5 (rCall call 10 (aCons (rVar 0) (aCons (rK (.int 9931)) (aCons (rVar 3) aNil)))))
  (sSeq (sDNew 6)
  (sSeq (sFor (.nm 7) (iRng1 (rCall call 10 (aCons (rVar 0) (aCons (rK (.int 9929)) (aCons (rBin fAdd (rVar 2) (rK (.int 1))) aNil)))))
  (sSeq (sSet 8 (rBin fAdd (rVar 0) (rBin fMul (rK (.int 37)) (rVar 7))))
  (sSeq (sSet 9 (rIf (tTru (rVar 4)) (rBin fMod (rBin fAdd (rBin fMul (rBin fDiv (rVar 5) (rK (.int 8))) (rK (.int 8))) (rCall call 10 (aCons (rVar 8) (aCons (rK (.int 9923)) (aCons (rK (.int 8)) aNil))))) (rVar 3)) (rCall call 10 (aCons (rVar 8) (aCons (rK (.int 9907)) (aCons (rVar 3) aNil))))))
  (sSeq (sDPut 6 (rCall call 11 (aCons (rVar 9) (aCons (rVar 1) aNil))) (rK (.bool true)))
  sNil))))
  (sSeq (sRet (rB1 fTuple (aCons (rSortD 6) aNil)))
  sNil)))))
abbrev s_law : Stmt := topS 22
abbrev n_law : List Str := ["script", "k", "cell", "long", "lot", "rows", "tag", "n", "crowded_now", "lame", "due", "way", "some", "places", "other", "ahead", "sound", "sign"]
theorem sc_law : FnScope n_law ["script"] (defScope s_law) := ⟨rfl, rfl, rfl, by decide +kernel, rfl, by decide +kernel, by decide +kernel⟩
noncomputable def l_law_3 (call : RC) : RS :=
  (sPost [true, false, false, true, true, true, true, false, false, false, false, false, false, false, false, false, false, false] (sSeq (sDPut 5 (rSl (rVar 6) oN (oS (rVar 7))) (rBin fAdd (rDGet2 5 (rSl (rVar 6) oN (oS (rVar 7))) (rK (.int 0))) (rK (.int 1))))
  sNil))
noncomputable def l_law_2 (call : RC) : RS :=
  (sPost [true, false, false, true, true, true, false, false, false, false, false, false, false, false, false, false, false, false] (sKeep [true, false, false, true, true, true, true, false, false, false, false, false, false, false, false, false, false, false] (sSeq (sFor (.nm 7) (iRng1 (rBin fAdd (rVar 3) (rK (.int 1))))
  (l_law_3 call))
  sNil)))
noncomputable def l_law_4 (call : RC) : RS :=
  (sPost [true, false, false, false, true, false, false, false, false, false, false, false, false, false, false, false, false, false] (sSeq (sSet 12 (rCall call 5 (aCons (rVar 4) (aCons (rVar 11) aNil))))
  (sSeq (sIf (tOr (tCmp cNe (rCall call 6 (aCons (rVar 12) aNil)) (rVar 4)) (tOr (tCmp cNe (rLenSet (rOf (rLc [15, 16] (.tp [15, 16]) (iLst (rVar 12)) tYes (rVar 15)))) (rB1 fLen (aCons (rVar 12) aNil))) (tCmp cNe (rBin fIt (rBin fIt (rVar 12) (rK (.int 0))) (rK (.int 0))) (rK (S [])))))
  (sSeq (sRet (rK (.bool false)))
  sNil)
  sNil)
  (sSeq (sSet 13 (rOf (rLc [6] (.nm 6) (iLst (rVar 4)) tYes (rCall call 8 (aCons (rVar 4) (aCons (rVar 11) (aCons (rVar 6) aNil)))))))
  (sSeq (sIf (tCmp cNe (rVar 13) (rSortSet (rVar 13)))
  (sSeq (sRet (rK (.bool false)))
  sNil)
  sNil)
  (sSeq (sIf (tCmp cNe (rOf (rLc [6, 7] (.tp [6, 7]) (iZipX (rVar 4) (rVar 13)) (tCmp cNe (rCall call 6 (aCons (rSl (rVar 12) (oS (rBin fSub (rVar 7) (rK (.int 1)))) (oS (rVar 7))) aNil)) (rTup (aCons (rVar 6) aNil))) (rVar 7))) (rLst aNil))
  (sSeq (sRet (rK (.bool false)))
  sNil)
  sNil)
  (sSeq (sIf (tCmp cGt (rCall call 7 (aCons (rStp (rVar 4) oN oN (oS (rK (.int 2)))) (aCons (rVar 11) aNil))) (rCall call 7 (aCons (rVar 4) (aCons (rVar 11) aNil))))
  (sSeq (sRet (rK (.bool false)))
  sNil)
  sNil)
  sNil)))))))
noncomputable def l_law_1 (call : RC) : RS :=
  (sPost [true, false, false, false, false, false, false, false, false, false, false, false, false, false, false, false, false, false] (sSeq (sSet 2 (rBin fAdd (rCall call 9 (aCons (rVar 0) (aCons (rBin fMod (rVar 1) (rK (.int 9))) aNil))) (rBin fMul (rK (.int 31)) (rVar 1))))
  (sSeq (sSet 3 (rCall call 13 (aCons (rVar 2) aNil)))
  (sSeq (sSet 4 (rCall call 14 (aCons (rVar 2) (aCons (rVar 3) (aCons (rK (.int 20)) aNil)))))
  (sSeq (sDNew 5)
  (sKeep [true, false, false, true, true, true, false, false, false, false, false, false, false, false, false, false, false, false] (sSeq (sFor (.nm 6) (iLst (rVar 4))
  (l_law_2 call))
  (sSeq (sLockD 5 (sSet 8 (rOf (rLc [15] (.nm 15) (iLk (rVar 5)) (tCmp cGt (rDGetL (rVar 5) (rVar 15)) (rK (.int 1))) (rVar 15)))))
  (sSeq (sSet 9 (rOf (rLc [15] (.nm 15) (iLst (rVar 8)) (tCmp cEq (rDGet2 5 (rBin fAdd (rVar 15) (rK (S [48]))) (rK (.int 0))) (rK (.int 0))) (rVar 15))))
  (sSeq (sSet 10 (rLst (aCons (rBin fAdd (rK (.int 1)) (rBin fMul (rK (.int 2)) (rB1 fLen (aCons (rVar 8) aNil)))) (aCons (rBin fSub (rBin fAdd (rK (.int 1)) (rBin fMul (rK (.int 2)) (rB1 fLen (aCons (rVar 8) aNil)))) (rB1 fLen (aCons (rVar 9) aNil))) aNil))))
  (sSeq (sSet 10 (rBin fAdd (rVar 10) (rLst (aCons (rB1 fMax (aCons (rK (.int 1)) (aCons (rBin fSub (rBin fMul (rK (.int 2)) (rB1 fLen (aCons (rVar 4) aNil))) (rK (.int 1))) aNil))) aNil))))
  (sSeq (sIf (tOr (tCmp cNe (rOf (rLc [11] (.nm 11) (iLst (rTup (aCons (rK (S [112, 108, 97, 105, 110])) (aCons (rK (S [115, 107, 105, 112])) (aCons (rK (S [109, 97, 114, 107, 115])) aNil))))) tYes (rCall call 7 (aCons (rVar 4) (aCons (rVar 11) aNil))))) (rVar 10)) (tCmp cGt (rBin fIt (rVar 10) (rK (.int 1))) (rBin fIt (rVar 10) (rK (.int 0)))))
  (sSeq (sRet (rK (.bool false)))
  sNil)
  sNil)
  (sSeq (sIf (tAnd (tCmp cNe (rVar 4) (rTup aNil)) (tCmp cGt (rBin fIt (rVar 10) (rK (.int 2))) (rBin fIt (rVar 10) (rK (.int 1)))))
  (sSeq (sRet (rK (.bool false)))
  sNil)
  sNil)
  (sKeep [true, false, false, false, true, false, false, false, false, false, false, false, false, false, false, false, false, false] (sSeq (sFor (.nm 11) (iLst (rTup (aCons (rK (S [112, 108, 97, 105, 110])) (aCons (rK (S [115, 107, 105, 112])) (aCons (rK (S [109, 97, 114, 107, 115])) aNil)))))
  (l_law_4 call))
  (sSeq (sSet 14 (rB1 fTuple (aCons (rB1 fSorted (aCons (rOf (rLc [6] (.nm 6) (iLst (rVar 4)) tYes (rV2 fJoin (rK (S [])) (rOf (rLc [17] (.nm 17) (iLst (rVar 6)) tYes (rBin fIt (rK (S [49, 48])) (rB1 fInt (aCons (rVar 17) aNil)))))))) aNil)) aNil)))
  (sSeq (sIf (tOr (tCmp cNe (rCall call 7 (aCons (rVar 14) (aCons (rK (S [112, 108, 97, 105, 110])) aNil))) (rCall call 7 (aCons (rVar 4) (aCons (rK (S [112, 108, 97, 105, 110])) aNil)))) (tCmp cNe (rCall call 7 (aCons (rVar 14) (aCons (rK (S [109, 97, 114, 107, 115])) aNil))) (rCall call 7 (aCons (rVar 4) (aCons (rK (S [109, 97, 114, 107, 115])) aNil)))))
  (sSeq (sRet (rK (.bool false)))
  sNil)
  sNil)
  sNil)))))))))))))))))
noncomputable def b_law (call : RC) : RS :=
  (sKeep [true, false, false, false, false, false, false, false, false, false, false, false, false, false, false, false, false, false] (sSeq (sFor (.nm 1) (iRng1 (rK (.int 16)))
  (l_law_1 call))
  (sSeq (sRet (rK (.bool true)))
  sNil)))
section
variable {M : Md} {TE : Addr} {xa : Nat → Addr} (g : Bl M) (E : Ex M TE xa)
include g E
theorem r_among {call : RC} {k kf : Nat} (G : ∀ f x, nm f = some x → Fok M kf x (phiC call xa f)) (hk : kf ≤ k) : SB M k n_among xa ⟨defScope s_among, defScope s_among⟩ true (defBody s_among) (b_among call) :=
  (sb_cons (ss_ret (se_callTy g.tuple boot_tuple ok_tuple (sa_cons (SL.se (sl_lc (own := [("tag", 2)]) (by decide +kernel) (si_lst (se_var G0)) (sg_nm G2) (sts_one (st_cmp ok_eq (se_sl (se_var G2) so_none (so_some (se_callB g.len boot_len ok_len (sa_cons (se_var G1) sa_nil)))) (se_var G1))) (se_var G2) (by decide))) sa_nil)))
  sb_nil)
theorem r_blurred {call : RC} {k kf : Nat} (G : ∀ f x, nm f = some x → Fok M kf x (phiC call xa f)) (hk : kf ≤ k) : SB M k n_blurred xa ⟨defScope s_blurred, defScope s_blurred⟩ true (defBody s_blurred) (b_blurred call) :=
  (sb_cons (ss_if (st_cmp ok_eq (se_callB g.min boot_min ok_min (sa_cons (se_var G0) sa_nil)) (se_callB g.max boot_max ok_max (sa_cons (se_var G0) sa_nil)))
  (sb_cons (ss_ret (se_ix ok_ix (se_var G0) se_int))
  sb_nil)
  sb_nil)
  (sb_cons (ss_ret (se_str [120] rfl))
  sb_nil))
theorem r_heard {call : RC} {k kf : Nat} (G : ∀ f x, nm f = some x → Fok M kf x (phiC call xa f)) (hk : kf ≤ k) : SB M k n_heard xa ⟨defScope s_heard, defScope s_heard⟩ true (defBody s_heard) (b_heard call) :=
  (sb_cons (ss_set G2 (se_call (G 0 "among" rfl) hk (sa_cons (se_var G0) (sa_cons (se_var G1) sa_nil))))
  (sb_cons (ss_if (st_not (st_tru (se_var G2)))
  (sb_cons (ss_ret se_non)
  sb_nil)
  sb_nil)
  (sb_cons (ss_ret (se_join (se_str [] rfl) (SL.se (sl_lc (own := [("k", 3)]) (by decide +kernel) (si_range2 g.range (se_callB g.len boot_len ok_len (sa_cons (se_var G1) sa_nil)) (se_callB g.len boot_len ok_len (sa_cons (se_ix ok_ix (se_var G2) se_int) sa_nil))) (sg_nm G3) sts_nil (se_call (G 1 "blurred" rfl) hk (sa_cons (SL.se (sl_lc (own := [("tag", 4)]) (by decide +kernel) (si_lst (se_var G2)) (sg_nm G4) sts_nil (se_ix ok_ix (se_var G4) (se_var G3)) (by decide))) sa_nil)) (by decide)))))
  sb_nil)))
theorem r_grown {call : RC} {k kf : Nat} (G : ∀ f x, nm f = some x → Fok M kf x (phiC call xa f)) (hk : kf ≤ k) : SB M k n_grown xa ⟨defScope s_grown, defScope s_grown⟩ true (defBody s_grown) (b_grown call) :=
  (sb_cons (ss_ret (se_tup (sa_cons (se_tup (sa_cons (se_bin ok_add (se_var G0) (se_str [48] rfl)) (sa_cons se_bl sa_nil))) (sa_cons (se_tup (sa_cons (se_bin ok_add (se_var G0) (se_str [49] rfl)) (sa_cons se_bl sa_nil))) sa_nil))))
  sb_nil)
theorem r_after {call : RC} {k kf : Nat} (G : ∀ f x, nm f = some x → Fok M kf x (phiC call xa f)) (hk : kf ≤ k) : SB M k n_after xa ⟨defScope s_after, defScope s_after⟩ true (defBody s_after) (b_after call) :=
  (sb_cons (ss_asg (sg_tp2 G5 G6) (se_var G0))
  (sb_cons (ss_if (st_cmp ok_is (se_var G1) se_non)
  (sb_cons (ss_if (st_w (sw_and (st_tru (se_var G6)) (sw_and (st_cmp ok_eq (se_var G3) (se_str [115, 107, 105, 112] rfl)) (sw_and1 (st_cmp ok_lt (se_callB g.len boot_len ok_len (sa_cons (se_var G5) sa_nil)) (se_var G4))))))
  (sb_cons (ss_ret (se_bin ok_add (se_call (G 3 "grown" rfl) hk (sa_cons (se_ix ok_ix (se_ix ok_ix (se_var G2) se_int) se_int) sa_nil)) (se_sl (se_var G2) (so_some se_int) so_none)))
  sb_nil)
  sb_nil)
  (sb_cons (ss_ret (se_var G2))
  sb_nil))
  sb_nil)
  (sb_cons (ss_if (st_cmp ok_ni (se_str [120] rfl) (se_var G1))
  (sb_cons (ss_ret (se_var G2))
  sb_nil)
  sb_nil)
  (sb_cons (ss_if (st_cmp ok_eq (se_var G3) (se_str [109, 97, 114, 107, 115] rfl))
  (sb_cons (ss_set G5 (se_bin ok_add (se_var G5) (se_sl (se_var G1) so_none (so_some (se_index (se_var G1) (se_str [120] rfl))))))
  sb_nil)
  sb_nil)
  (sb_cons (ss_ret (se_bin ok_add (se_call (G 3 "grown" rfl) hk (sa_cons (se_var G5) sa_nil)) (se_var G2)))
  sb_nil)))))
theorem r_walk {call : RC} {k kf : Nat} (G : ∀ f x, nm f = some x → Fok M kf x (phiC call xa f)) (hk : kf ≤ k) : SB M k n_walk xa ⟨defScope s_walk, defScope s_walk⟩ true (defBody s_walk) (b_walk call) :=
  (sb_cons (ss_set G2 (se_if (st_tru (se_var G0)) (se_callB g.len boot_len ok_len (sa_cons (se_ix ok_ix (se_var G0) se_int) sa_nil)) se_int))
  (sb_cons (ss_set G3 (se_gtup g.FIRST))
  (sb_cons (ss_new G4 (sn_lst sa_nil))
  (sb_cons (ss_whl (st_tru (se_var G3))
  (sb_cons (ss_set G5 (se_call (G 2 "heard" rfl) hk (sa_cons (se_var G0) (sa_cons (se_ix ok_ix (se_ix ok_ix (se_var G3) se_int) se_int) sa_nil))))
  (sb_cons (ss_app G4 (se_tup (sa_cons (se_ix ok_ix (se_ix ok_ix (se_var G3) se_int) se_int) (sa_cons (se_var G5) sa_nil))))
  (sb_cons (ss_set G3 (se_call (G 4 "after" rfl) hk (sa_cons (se_ix ok_ix (se_var G3) se_int) (sa_cons (se_var G5) (sa_cons (se_sl (se_var G3) (so_some se_int) so_none) (sa_cons (se_var G1) (sa_cons (se_var G2) sa_nil)))))))
  sb_nil))))
  (sb_cons (ss_ret (se_bor (se_callTy g.tuple boot_tuple ok_tuple (sa_cons (se_var G4) sa_nil))))
  sb_nil)))))
theorem r_told {call : RC} {k kf : Nat} (G : ∀ f x, nm f = some x → Fok M kf x (phiC call xa f)) (hk : kf ≤ k) : SB M k n_told xa ⟨defScope s_told, defScope s_told⟩ true (defBody s_told) (b_told call) :=
  (sb_cons (ss_ret (se_callTy g.tuple boot_tuple ok_tuple (sa_cons (SL.se (sl_lc (own := [("beginning", 1), ("sound", 2)]) (by decide +kernel) (si_lst (se_var G0)) (sg_tp2 G1 G2) (sts_one (st_w (sw_and (st_cmp ok_nis (se_var G2) se_non) (sw_and1 (st_cmp ok_ni (se_str [120] rfl) (se_var G2)))))) (se_bin ok_add (se_var G1) (se_var G2)) (by decide))) sa_nil)))
  sb_nil)
theorem r_asks {call : RC} {k kf : Nat} (G : ∀ f x, nm f = some x → Fok M kf x (phiC call xa f)) (hk : kf ≤ k) : SB M k n_asks xa ⟨defScope s_asks, defScope s_asks⟩ true (defBody s_asks) (b_asks call) :=
  (sb_cons (ss_ret (se_callB g.len boot_len ok_len (sa_cons (se_call (G 5 "walk" rfl) hk (sa_cons (se_var G0) (sa_cons (se_var G1) sa_nil))) sa_nil)))
  sb_nil)
theorem r_first_at {call : RC} {k kf : Nat} (G : ∀ f x, nm f = some x → Fok M kf x (phiC call xa f)) (hk : kf ≤ k) : SB M k n_first_at xa ⟨defScope s_first_at, defScope s_first_at⟩ true (defBody s_first_at) (b_first_at call) :=
  (sb_cons (ss_for (sg_tp2 G3 G4) (si_enum g.enumerate (se_call (G 5 "walk" rfl) hk (sa_cons (se_var G0) (sa_cons (se_var G1) sa_nil))))
  (sb_cons (ss_if (st_cmp ok_eq (se_call (G 6 "told" rfl) hk (sa_cons (se_tup (sa_cons (se_var G4) sa_nil)) sa_nil)) (se_tup (sa_cons (se_var G2) sa_nil)))
  (sb_cons (ss_ret (se_bin ok_add (se_var G3) se_int))
  sb_nil)
  sb_nil)
  sb_nil))
  (sb_cons (ss_raise E.x_NT)
  sb_nil))
theorem r__law_cell {call : RC} {k kf : Nat} (G : ∀ f x, nm f = some x → Fok M kf x (phiC call xa f)) (hk : kf ≤ k) : SB M k n__law_cell xa ⟨defScope s__law_cell, defScope s__law_cell⟩ true (defBody s__law_cell) (b__law_cell call) :=
  (sb_cons (ss_if (st_cmp ok_lt (se_var G1) (se_callB g.len boot_len ok_len (sa_cons (se_var G0) sa_nil)))
  (sb_cons (ss_ret (se_ix ok_ix (se_var G0) (se_var G1)))
  sb_nil)
  sb_nil)
  (sb_cons (ss_ret se_int)
  sb_nil))
theorem r__law_mix {call : RC} {k kf : Nat} (G : ∀ f x, nm f = some x → Fok M kf x (phiC call xa f)) (hk : kf ≤ k) : SB M k n__law_mix xa ⟨defScope s__law_mix, defScope s__law_mix⟩ true (defBody s__law_mix) (b__law_mix call) :=
  (sb_cons (ss_set G3 (se_bin ok_mod (se_bin ok_mul (se_var G0) se_int) (se_var G1)))
  (sb_cons (ss_ret (se_bin ok_mod (se_bin ok_mod (se_bin ok_mul (se_var G3) (se_bin ok_add (se_var G3) se_int)) (se_var G1)) (se_var G2)))
  sb_nil))
theorem r__law_tag {call : RC} {k kf : Nat} (G : ∀ f x, nm f = some x → Fok M kf x (phiC call xa f)) (hk : kf ≤ k) : SB M k n__law_tag xa ⟨defScope s__law_tag, defScope s__law_tag⟩ true (defBody s__law_tag) (b__law_tag call) :=
  (sb_cons (ss_set G2 (se_str [] rfl))
  (sb_cons (ss_for (sg_nm G3) (si_range1 g.range (se_var G1))
  (sb_cons (ss_set G2 (se_bin ok_add (se_callTy g.str boot_str ok_str (sa_cons (se_bin ok_mod (se_var G0) se_int) sa_nil)) (se_var G2)))
  (sb_cons (ss_set G0 (se_bin ok_div (se_var G0) se_int))
  sb_nil)))
  (sb_cons (ss_ret (se_var G2))
  sb_nil)))
theorem r__law_two {call : RC} {k kf : Nat} (G : ∀ f x, nm f = some x → Fok M kf x (phiC call xa f)) (hk : kf ≤ k) : SB M k n__law_two xa ⟨defScope s__law_two, defScope s__law_two⟩ true (defBody s__law_two) (b__law_two call) :=
  (sb_cons (ss_set G1 se_int)
  (sb_cons (ss_for (sg_nm G2) (si_range1 g.range (se_var G0))
  (sb_cons (ss_set G1 (se_bin ok_mul (se_var G1) se_int))
  sb_nil))
  (sb_cons (ss_ret (se_var G1))
  sb_nil)))
theorem r__law_long {call : RC} {k kf : Nat} (G : ∀ f x, nm f = some x → Fok M kf x (phiC call xa f)) (hk : kf ≤ k) : SB M k n__law_long xa ⟨defScope s__law_long, defScope s__law_long⟩ true (defBody s__law_long) (b__law_long call) :=
  (sb_cons (ss_ret (se_if (st_cmp ok_eq (se_call (G 10 "_law_mix" rfl) hk (sa_cons (se_var G0) (sa_cons se_int (sa_cons se_int sa_nil)))) se_int) (se_bin ok_add se_int (se_call (G 10 "_law_mix" rfl) hk (sa_cons (se_var G0) (sa_cons se_int (sa_cons se_int sa_nil))))) (se_bin ok_add se_int (se_call (G 10 "_law_mix" rfl) hk (sa_cons (se_var G0) (sa_cons se_int (sa_cons se_int sa_nil)))))))
  sb_nil)
theorem r__law_lot {call : RC} {k kf : Nat} (G : ∀ f x, nm f = some x → Fok M kf x (phiC call xa f)) (hk : kf ≤ k) : SB M k n__law_lot xa ⟨defScope s__law_lot, defScope s__law_lot⟩ true (defBody s__law_lot) (b__law_lot call) :=
  (sb_cons (ss_par2 G3 G4 (sa_cons (se_call (G 12 "_law_two" rfl) hk (sa_cons (se_var G1) sa_nil)) (sa_cons (se_cmp ok_eq (se_call (G 10 "_law_mix" rfl) hk (sa_cons (se_var G0) (sa_cons se_int (sa_cons se_int sa_nil)))) se_int) sa_nil)))
  (sb_cons (ss_set G5 (se_call (G 10 "_law_mix" rfl) hk (sa_cons (se_var G0) (sa_cons se_int (sa_cons (se_var G3) sa_nil)))))
  (sb_cons (ss_dnew G6)
  (sb_cons (ss_for (sg_nm G7) (si_range1 g.range (se_call (G 10 "_law_mix" rfl) hk (sa_cons (se_var G0) (sa_cons se_int (sa_cons (se_bin ok_add (se_var G2) se_int) sa_nil)))))
  (sb_cons (ss_set G8 (se_bin ok_add (se_var G0) (se_bin ok_mul se_int (se_var G7))))
  (sb_cons (ss_set G9 (se_if (st_tru (se_var G4)) (se_bin ok_mod (se_bin ok_add (se_bin ok_mul (se_bin ok_div (se_var G5) se_int) se_int) (se_call (G 10 "_law_mix" rfl) hk (sa_cons (se_var G8) (sa_cons se_int (sa_cons se_int sa_nil))))) (se_var G3)) (se_call (G 10 "_law_mix" rfl) hk (sa_cons (se_var G8) (sa_cons se_int (sa_cons (se_var G3) sa_nil))))))
  (sb_cons (ss_dput G6 (se_call (G 11 "_law_tag" rfl) hk (sa_cons (se_var G9) (sa_cons (se_var G1) sa_nil))) se_bl)
  sb_nil))))
  (sb_cons (ss_ret (se_callTy g.tuple boot_tuple ok_tuple (sa_cons (se_sortD G6 g.sorted) sa_nil)))
  sb_nil)))))
theorem r_law {call : RC} {k kf : Nat} (G : ∀ f x, nm f = some x → Fok M kf x (phiC call xa f)) (hk : kf ≤ k) : SB M k n_law xa ⟨defScope s_law, defScope s_law⟩ true (defBody s_law) (b_law call) :=
  (sb_keep [true, false, false, false, false, false, false, false, false, false, false, false, false, false, false, false, false, false] (sb_cons (ss_for (sg_nm G1) (si_range1 g.range se_int)
  (sb_post [true, false, false, false, false, false, false, false, false, false, false, false, false, false, false, false, false, false] (sb_cons (ss_set G2 (se_bin ok_add (se_call (G 9 "_law_cell" rfl) hk (sa_cons (se_var G0) (sa_cons (se_bin ok_mod (se_var G1) se_int) sa_nil))) (se_bin ok_mul se_int (se_var G1))))
  (sb_cons (ss_set G3 (se_call (G 13 "_law_long" rfl) hk (sa_cons (se_var G2) sa_nil)))
  (sb_cons (ss_set G4 (se_call (G 14 "_law_lot" rfl) hk (sa_cons (se_var G2) (sa_cons (se_var G3) (sa_cons se_int sa_nil)))))
  (sb_cons (ss_dnew G5)
  (sb_keep [true, false, false, true, true, true, false, false, false, false, false, false, false, false, false, false, false, false] (sb_cons (ss_for (sg_nm G6) (si_lst (se_var G4))
  (sb_post [true, false, false, true, true, true, false, false, false, false, false, false, false, false, false, false, false, false] (sb_keep [true, false, false, true, true, true, true, false, false, false, false, false, false, false, false, false, false, false] (sb_cons (ss_for (sg_nm G7) (si_range1 g.range (se_bin ok_add (se_var G3) se_int))
  (sb_post [true, false, false, true, true, true, true, false, false, false, false, false, false, false, false, false, false, false] (sb_cons (ss_dput G5 (se_sl (se_var G6) so_none (so_some (se_var G7))) (se_bin ok_add (se_dget2 G5 (se_sl (se_var G6) so_none (so_some (se_var G7))) se_int (fun X => ⟨rfl, rfl, rfl, rfl⟩)) se_int))
  sb_nil)))
  sb_nil))))
  (sb_cons (ss_lockD 5 (ss_setL G8 (sl_lc (own := [("ahead", 15)]) (by decide +kernel) (si_lk (se_var G5)) (sg_nm G15) (sts_one (st_cmp ok_gt (se_dgetL (se_var G5) (se_var G15)) se_int)) (se_var G15) (by decide))))
  (sb_cons (ss_setL G9 (sl_lc (own := [("ahead", 15)]) (by decide +kernel) (si_lst (se_var G8)) (sg_nm G15) (sts_one (st_cmp ok_eq (se_dget2 G5 (se_bin ok_add (se_var G15) (se_str [48] rfl)) se_int (fun X => ⟨rfl, rfl, rfl, rfl⟩)) se_int)) (se_var G15) (by decide)))
  (sb_cons (ss_set G10 (se_lst (sa_cons (se_bin ok_add se_int (se_bin ok_mul se_int (se_callB g.len boot_len ok_len (sa_cons (se_var G8) sa_nil)))) (sa_cons (se_bin ok_sub (se_bin ok_add se_int (se_bin ok_mul se_int (se_callB g.len boot_len ok_len (sa_cons (se_var G8) sa_nil)))) (se_callB g.len boot_len ok_len (sa_cons (se_var G9) sa_nil))) sa_nil))))
  (sb_cons (ss_set G10 (se_bin ok_add (se_var G10) (se_lst (sa_cons (se_callB g.max boot_max ok_max (sa_cons se_int (sa_cons (se_bin ok_sub (se_bin ok_mul se_int (se_callB g.len boot_len ok_len (sa_cons (se_var G4) sa_nil))) se_int) sa_nil))) sa_nil))))
  (sb_cons (ss_if (st_w (sw_or (st_cmp ok_ne (SL.se (sl_lc (own := [("way", 11)]) (by decide +kernel) (si_lst (se_tup (sa_cons (se_str [112, 108, 97, 105, 110] rfl) (sa_cons (se_str [115, 107, 105, 112] rfl) (sa_cons (se_str [109, 97, 114, 107, 115] rfl) sa_nil))))) (sg_nm G11) sts_nil (se_call (G 7 "asks" rfl) hk (sa_cons (se_var G4) (sa_cons (se_var G11) sa_nil))) (by decide))) (se_var G10)) (sw_or1 (st_cmp ok_gt (se_ix ok_ix (se_var G10) se_int) (se_ix ok_ix (se_var G10) se_int)))))
  (sb_cons (ss_ret se_bl)
  sb_nil)
  sb_nil)
  (sb_cons (ss_if (st_w (sw_and (st_cmp ok_ne (se_var G4) (se_tup sa_nil)) (sw_and1 (st_cmp ok_gt (se_ix ok_ix (se_var G10) se_int) (se_ix ok_ix (se_var G10) se_int)))))
  (sb_cons (ss_ret se_bl)
  sb_nil)
  sb_nil)
  (sb_keep [true, false, false, false, true, false, false, false, false, false, false, false, false, false, false, false, false, false] (sb_cons (ss_for (sg_nm G11) (si_lst (se_tup (sa_cons (se_str [112, 108, 97, 105, 110] rfl) (sa_cons (se_str [115, 107, 105, 112] rfl) (sa_cons (se_str [109, 97, 114, 107, 115] rfl) sa_nil)))))
  (sb_post [true, false, false, false, true, false, false, false, false, false, false, false, false, false, false, false, false, false] (sb_cons (ss_set G12 (se_call (G 5 "walk" rfl) hk (sa_cons (se_var G4) (sa_cons (se_var G11) sa_nil))))
  (sb_cons (ss_if (st_w (sw_or (st_cmp ok_ne (se_call (G 6 "told" rfl) hk (sa_cons (se_var G12) sa_nil)) (se_var G4)) (sw_or (st_cmp ok_ne (se_lenSet g.len g.set (SL.se (sl_lc (own := [("ahead", 15), ("sound", 16)]) (by decide +kernel) (si_lst (se_var G12)) (sg_tp2 G15 G16) sts_nil (se_var G15) (by decide)))) (se_callB g.len boot_len ok_len (sa_cons (se_var G12) sa_nil))) (sw_or1 (st_cmp ok_ne (se_ix ok_ix (se_ix ok_ix (se_var G12) se_int) se_int) (se_str [] rfl))))))
  (sb_cons (ss_ret se_bl)
  sb_nil)
  sb_nil)
  (sb_cons (ss_setL G13 (sl_lc (own := [("tag", 6)]) (by decide +kernel) (si_lst (se_var G4)) (sg_nm G6) sts_nil (se_call (G 8 "first_at" rfl) hk (sa_cons (se_var G4) (sa_cons (se_var G11) (sa_cons (se_var G6) sa_nil)))) (by decide)))
  (sb_cons (ss_if (st_cmp ok_ne (se_var G13) (se_sortSet g.sorted g.set (se_var G13)))
  (sb_cons (ss_ret se_bl)
  sb_nil)
  sb_nil)
  (sb_cons (ss_if (st_cmp ok_ne (SL.se (sl_lc (own := [("tag", 6), ("n", 7)]) (by decide +kernel) (si_zipX g.zip (se_var G4) (se_var G13)) (sg_tp2 G6 G7) (sts_one (st_cmp ok_ne (se_call (G 6 "told" rfl) hk (sa_cons (se_sl (se_var G12) (so_some (se_bin ok_sub (se_var G7) se_int)) (so_some (se_var G7))) sa_nil)) (se_tup (sa_cons (se_var G6) sa_nil)))) (se_var G7) (by decide))) (se_lst sa_nil))
  (sb_cons (ss_ret se_bl)
  sb_nil)
  sb_nil)
  (sb_cons (ss_if (st_cmp ok_gt (se_call (G 7 "asks" rfl) hk (sa_cons (se_stp (se_var G4) so_none so_none (so_some se_int)) (sa_cons (se_var G11) sa_nil))) (se_call (G 7 "asks" rfl) hk (sa_cons (se_var G4) (sa_cons (se_var G11) sa_nil))))
  (sb_cons (ss_ret se_bl)
  sb_nil)
  sb_nil)
  sb_nil))))))))
  (sb_cons (ss_set G14 (se_callTy g.tuple boot_tuple ok_tuple (sa_cons (se_callB g.sorted PyProof.Rows.boot_sorted ok_sorted (sa_cons (SL.se (sl_lc (own := [("tag", 6)]) (by decide +kernel) (si_lst (se_var G4)) (sg_nm G6) sts_nil (se_join (se_str [] rfl) (SL.se (sl_lc (own := [("sign", 17)]) (by decide +kernel) (si_lst (se_var G6)) (sg_nm G17) sts_nil (se_ix ok_ix (se_str [49, 48] rfl) (se_callTy g.int boot_int ok_int (sa_cons (se_var G17) sa_nil))) (by decide)))) (by decide))) sa_nil)) sa_nil)))
  (sb_cons (ss_if (st_w (sw_or (st_cmp ok_ne (se_call (G 7 "asks" rfl) hk (sa_cons (se_var G14) (sa_cons (se_str [112, 108, 97, 105, 110] rfl) sa_nil))) (se_call (G 7 "asks" rfl) hk (sa_cons (se_var G4) (sa_cons (se_str [112, 108, 97, 105, 110] rfl) sa_nil)))) (sw_or1 (st_cmp ok_ne (se_call (G 7 "asks" rfl) hk (sa_cons (se_var G14) (sa_cons (se_str [109, 97, 114, 107, 115] rfl) sa_nil))) (se_call (G 7 "asks" rfl) hk (sa_cons (se_var G4) (sa_cons (se_str [109, 97, 114, 107, 115] rfl) sa_nil)))))))
  (sb_cons (ss_ret se_bl)
  sb_nil)
  sb_nil)
  sb_nil))))))))))))))))))
  (sb_cons (ss_ret se_bl)
  sb_nil)))
end
noncomputable def callN : Nat → RC
  | 0 => fun _ _ => none
  | n + 1 => fun f => match f with
    | 0 => runD 2 1 (b_among (callN n))
    | 1 => runD 1 0 (b_blurred (callN n))
    | 2 => runD 2 3 (b_heard (callN n))
    | 3 => runD 1 0 (b_grown (callN n))
    | 4 => runD 5 2 (b_after (callN n))
    | 5 => runD 2 4 (b_walk (callN n))
    | 6 => runD 1 2 (b_told (callN n))
    | 7 => runD 2 0 (b_asks (callN n))
    | 8 => runD 3 2 (b_first_at (callN n))
    | 9 => runD 2 0 (b__law_cell (callN n))
    | 10 => runD 3 1 (b__law_mix (callN n))
    | 11 => runD 2 2 (b__law_tag (callN n))
    | 12 => runD 1 2 (b__law_two (callN n))
    | 13 => runD 1 0 (b__law_long (callN n))
    | 14 => runD 3 7 (b__law_lot (callN n))
    | 15 => runD 1 17 (b_law (callN n))
    | _ => fun _ => none
theorem c_among (n : Nat) (ds : List PyData) : callN (n + 1) 0 ds = runD 2 1 (b_among (callN n)) ds := rfl
theorem c_blurred (n : Nat) (ds : List PyData) : callN (n + 1) 1 ds = runD 1 0 (b_blurred (callN n)) ds := rfl
theorem c_heard (n : Nat) (ds : List PyData) : callN (n + 1) 2 ds = runD 2 3 (b_heard (callN n)) ds := rfl
theorem c_grown (n : Nat) (ds : List PyData) : callN (n + 1) 3 ds = runD 1 0 (b_grown (callN n)) ds := rfl
theorem c_after (n : Nat) (ds : List PyData) : callN (n + 1) 4 ds = runD 5 2 (b_after (callN n)) ds := rfl
theorem c_walk (n : Nat) (ds : List PyData) : callN (n + 1) 5 ds = runD 2 4 (b_walk (callN n)) ds := rfl
theorem c_told (n : Nat) (ds : List PyData) : callN (n + 1) 6 ds = runD 1 2 (b_told (callN n)) ds := rfl
theorem c_asks (n : Nat) (ds : List PyData) : callN (n + 1) 7 ds = runD 2 0 (b_asks (callN n)) ds := rfl
theorem c_first_at (n : Nat) (ds : List PyData) : callN (n + 1) 8 ds = runD 3 2 (b_first_at (callN n)) ds := rfl
theorem c__law_cell (n : Nat) (ds : List PyData) : callN (n + 1) 9 ds = runD 2 0 (b__law_cell (callN n)) ds := rfl
theorem c__law_mix (n : Nat) (ds : List PyData) : callN (n + 1) 10 ds = runD 3 1 (b__law_mix (callN n)) ds := rfl
theorem c__law_tag (n : Nat) (ds : List PyData) : callN (n + 1) 11 ds = runD 2 2 (b__law_tag (callN n)) ds := rfl
theorem c__law_two (n : Nat) (ds : List PyData) : callN (n + 1) 12 ds = runD 1 2 (b__law_two (callN n)) ds := rfl
theorem c__law_long (n : Nat) (ds : List PyData) : callN (n + 1) 13 ds = runD 1 0 (b__law_long (callN n)) ds := rfl
theorem c__law_lot (n : Nat) (ds : List PyData) : callN (n + 1) 14 ds = runD 3 7 (b__law_lot (callN n)) ds := rfl
theorem c_law (n : Nat) (ds : List PyData) : callN (n + 1) 15 ds = runD 1 17 (b_law (callN n)) ds := rfl
end K

namespace K
open PySem PySem.Spec PyProof.Rows L2 Dl Rl
local macro_rules | `(tactic| walk_at "sz") => `(tactic| first | assumption | exact vn_v | exact vn_no | omega | decide | (simp only [List.length_cons, List.length_nil, List.length_map, List.length_append, List.length_range, List.length_replicate, rangeD_length]; omega))
local macro_rules | `(tactic| walk_at "ev") => `(tactic| simp -implicitDefEqProofs (disch := walk_at "sz") only [fin_nx, fin_rt, fin_ex, seqK_nx, seqK_rt, seqK_ex, seqK_bk, seqK_ct, e_seq, e_nil, ifK_t, ifK_f, e_if, e_rif, e_set, olK_s, e_new, nxO_s, e_asg, e_ret, e_retN, e_exp, e_brk, e_cnt, e_raise, parK_s, e_par, psL_n, psK_s, psL_c, ps_nm, ps_tp, appK_s, e_app, extK_s, e_ext, gO_z, gO_zv, gO_zn, gO_s, e_for, e_whl, frzK_s, frzK_n, frzK2_s, e_frz, e_var, e_k, e_bin, e_v2, e_cmp, e_b, e_tru, e_not, andK_t, andK_f, orK_t, orK_f, e_and, e_or, andV_t, andV_f, orV_t, orV_f, e_vand, e_vor, bl1_s, e_vnot, e_neg, negF_i, e_aNil, consK_r, consK_x, consK2_v, consK2_x, e_aCons, few_s, e_tup, e_lst, lstK_s, e_nLst, e_of, b1K_s, e_b1, e_call, e_oN, oSF_i, e_oS, slK_s, slK2_s, e_sl, bor_i, bor_b, bor_n, bor_S, borK_s, e_bor', e_tbor, vw_n, vw_v, vw_o, vw_no, vw_d, e_isi, e_isi2, isiF_f, isOb_n, isOb_b, isOb_i, isOb_s, isOb_l, isOb_t, vw_b, e_iLst, lstF_l, lstF_t, lstF_s, lstF_x, e_rng1, rng1_s, e_rng2, rng2_s, e_down, down_s, e_enum, enumF_l, enumF_t, e_zip, zipF_l, zipF_t, chK_t, chK_f, e_chain, orTK_t, orTK_f, e_orT, e_tryW, tryK_rt, tryK_nx, e_tryR, tryRK_rt, tryRK_nx, tryRK_ex, e_dnew, e_dput, dputK_s, keyOf_s, keyOf_i, gD_z, gD_s, e_sortD, e_dget, dgetK_s, e_dget2, dget2K_s, add_i, add_s, add_l, add_t, sub_i, mul_i1, mul_i2, mul_s, mul_l, mul_t, div_i, mod_i, shl_i, lt_i, lt_s, le_i, gt_i, ge_i, eq_i, eq_s, ne_i, ne_s, is_n, nis_n, is_b, nis_b, in_ss, ni_ss, in_st, ni_st, it_t, it_l, it_s, it_scr, len_s, len_l, len_t, len_scr, tuple_l, tuple_t, list_l, list_t, all_m, any_m, sum_m, max_i, min_i, max_s, min_s, abs_i, str_i, int_b, int_s, sl_s', sl_t', sl_l', tru_s, tru_t, tru_l, tru_b, tru_i, tru_n, join_s, join_t, starts_s, at0, at1, at2, at0m, not_t, not_f, ie_c, ie_n, ie_m, is_tuple_n, is_tuple_b, is_tuple_i, is_tuple_s, is_tuple_l, is_tuple_t, is_bool_n, is_bool_b, is_bool_i, is_bool_s, is_bool_l, is_bool_t, is_int_n, is_int_b, is_int_i, is_int_s, is_int_l, is_int_t, is_str_n, is_str_b, is_str_i, is_str_s, is_str_l, is_str_t, is_list_n, is_list_b, is_list_i, is_list_s, is_list_l, is_list_t, decide_true, decide_false, isNone_n, isNone_s, isNone_i, isNone_b, isNone_t, isNone_l, List.length_map, Bool.or_true, Bool.true_or, Bool.or_false, Bool.false_or, e_on, onK_s, lcK_s, lcK2_s, e_lc, wip_n, wip_c, wipK_s, noS_zn, noS_zv, noS_vn, noS_s, e_turn, turnK_s, turnK2_t, turnK2_f, e_yes, map_some', bE_ret, bE_exc, vE_ret, bA_vs, bS_ret, bS_exc, bAS_vs, gS_z, gS_s, sS_z, sS_s, e_keep, keep_n, keep_e, keep_t, keep_f, e_post, kRes_nx, kRes_rt, kRes_ex, kRes_bk, kRes_ct, e_zipX, zipX_l, zipX_t, zipX_m, e_parM, parMK_s, ssL_z, ssL_c, ssK_s, e_mNil, e_mD, e_mN, mNK_s, e_nAdd, addN_l, e_nRep, repN_l, e_nList, listN_l, listN_t, e_lput, lputK_s, e_lr1, lr1_s, e_lr2, lr2_s, e_tryH, tryHK_rt, tryHK_nx, e_sortKey, gT_z, gT_s, e_dputT, dputTA_s, dputTK_s, e_dnewT, e_sortDT])
local macro_rules | `(tactic| walk_at "pf") => `(tactic| fail)
local macro_rules | `(tactic| walk_at "go") => `(tactic| repeat (first | walk_at "ev" | walk_at "pf"))
theorem u_among {n : Nat} {x0 x1 : PyData} : callN (n + 1) 0 [x0, x1] = fin (b_among (callN n) [.v x0, .v x1, .no]) := rfl
theorem u_blurred {n : Nat} {x0 : PyData} : callN (n + 1) 1 [x0] = fin (b_blurred (callN n) [.v x0]) := rfl
theorem u_heard {n : Nat} {x0 x1 : PyData} : callN (n + 1) 2 [x0, x1] = fin (b_heard (callN n) [.v x0, .v x1, .no, .no, .no]) := rfl
theorem u_grown {n : Nat} {x0 : PyData} : callN (n + 1) 3 [x0] = fin (b_grown (callN n) [.v x0]) := rfl
theorem u_after {n : Nat} {x0 x1 x2 x3 x4 : PyData} : callN (n + 1) 4 [x0, x1, x2, x3, x4] = fin (b_after (callN n) [.v x0, .v x1, .v x2, .v x3, .v x4, .no, .no]) := rfl
theorem u_walk {n : Nat} {x0 x1 : PyData} : callN (n + 1) 5 [x0, x1] = fin (b_walk (callN n) [.v x0, .v x1, .no, .no, .no, .no]) := rfl
theorem u_told {n : Nat} {x0 : PyData} : callN (n + 1) 6 [x0] = fin (b_told (callN n) [.v x0, .no, .no]) := rfl
theorem u_asks {n : Nat} {x0 x1 : PyData} : callN (n + 1) 7 [x0, x1] = fin (b_asks (callN n) [.v x0, .v x1]) := rfl
theorem u_first_at {n : Nat} {x0 x1 x2 : PyData} : callN (n + 1) 8 [x0, x1, x2] = fin (b_first_at (callN n) [.v x0, .v x1, .v x2, .no, .no]) := rfl
theorem u__law_cell {n : Nat} {x0 x1 : PyData} : callN (n + 1) 9 [x0, x1] = fin (b__law_cell (callN n) [.v x0, .v x1]) := rfl
theorem u__law_mix {n : Nat} {x0 x1 x2 : PyData} : callN (n + 1) 10 [x0, x1, x2] = fin (b__law_mix (callN n) [.v x0, .v x1, .v x2, .no]) := rfl
theorem u__law_tag {n : Nat} {x0 x1 : PyData} : callN (n + 1) 11 [x0, x1] = fin (b__law_tag (callN n) [.v x0, .v x1, .no, .no]) := rfl
theorem u__law_two {n : Nat} {x0 : PyData} : callN (n + 1) 12 [x0] = fin (b__law_two (callN n) [.v x0, .no, .no]) := rfl
theorem u__law_long {n : Nat} {x0 : PyData} : callN (n + 1) 13 [x0] = fin (b__law_long (callN n) [.v x0]) := rfl
theorem u__law_lot {n : Nat} {x0 x1 x2 : PyData} : callN (n + 1) 14 [x0, x1, x2] = fin (b__law_lot (callN n) [.v x0, .v x1, .v x2, .no, .no, .no, .no, .no, .no, .no]) := rfl
theorem u_law {n : Nat} {x0 : PyData} : callN (n + 1) 15 [x0] = fin (b_law (callN n) [.v x0, .no, .no, .no, .no, .no, .no, .no, .no, .no, .no, .no, .no, .no, .no, .no, .no, .no]) := rfl
theorem p_cell {n : Nat} {ns : List Int} {k : Int} (h1 : 0 ≤ k ∧ k ≤ 100) : callN (n + 1) 9 [scrD ns, .int k] = some (.ret (.int (cellF ns k))) := by
  show fin (b__law_cell (callN n) [.v (scrD ns), .v (.int k)]) = _
  unfold b__law_cell
  walk_at "ev"
  by_cases h : k < ns.length
  · rw [ifK_p h]
    walk_at "ev"
    rw [cell_ix h1.1 h]
    rfl
  · rw [ifK_n h]
    walk_at "ev"
    unfold cellF
    rw [List.getD_eq_getElem?_getD, List.getElem?_eq_none (by omega)]
    rfl
theorem p_mix {n : Nat} {w p m : Int} (h1 : 0 < p ∧ p < 100000) (h2 : 0 < m) : callN (n + 1) 10 [.int w, .int p, .int m] = some (.ret (.int (mixF w p m))) := by
  have b1 := Int.emod_nonneg (w * 48271) (show p ≠ 0 by omega)
  have b2 := Int.emod_lt_of_pos (w * 48271) (show 0 < p by omega)
  show fin (b__law_mix (callN n) [.v (.int w), .v (.int p), .v (.int m), .no]) = _
  unfold b__law_mix
  walk_at "ev"
  rfl
local macro_rules | `(tactic| walk_at "pf") => `(tactic| simp (disch := walk_at "sz") only [p_cell])
local macro_rules | `(tactic| walk_at "pf") => `(tactic| simp (disch := walk_at "sz") only [p_mix])
theorem p_tag {n : Nat} {p l : Int} (h : 0 ≤ l ∧ l ≤ 1000) : callN (n + 1) 11 [.int p, .int l] = some (.ret (S (bitsF p l.toNat))) := by
  show fin (b__law_tag (callN n) [.v (.int p), .v (.int l), .no, .no]) = _
  unfold b__law_tag
  walk_at "ev"
  rw [for_rng (fun i => [.v (.int (plF p i)), .v (.int l), .v (S (bitsF p i)), kS .no 0 i])]
  · walk_at "ev"
  · rfl
  · intro i hi
    have bl := bits_len p i
    have b2 := Int.emod_two_eq (plF p i)
    walk_at "ev"
    rfl
local macro_rules | `(tactic| walk_at "pf") => `(tactic| simp (disch := walk_at "sz") only [p_tag])
theorem p_two {n : Nat} {l : Int} (h : 0 ≤ l ∧ l ≤ 1000) : callN (n + 1) 12 [.int l] = some (.ret (.int (2 ^ l.toNat))) := by
  show fin (b__law_two (callN n) [.v (.int l), .no, .no]) = _
  unfold b__law_two
  walk_at "ev"
  rw [for_rng (fun i => [.v (.int l), .v (.int (2 ^ i)), kS .no 0 i])]
  · walk_at "ev"
  · rfl
  · intro i hi
    walk_at "ev"
    rw [Int.pow_succ]
    rfl
local macro_rules | `(tactic| walk_at "pf") => `(tactic| simp (disch := walk_at "sz") only [p_two])
theorem p_long {n : Nat} {u : Int} : callN (n + 2) 13 [.int u] = some (.ret (.int (longF u))) := by
  show fin (b__law_long (callN (n + 1)) [.v (.int u)]) = _
  unfold b__law_long longF
  walk_at "ev"
  simp (disch := walk_at "sz") only [p_mix]
  walk_at "ev"
  by_cases h : mixF u 9967 3 = 0
  · rw [ifK_p h, if_pos (decide_eq_true h)]
    walk_at "ev"
    simp (disch := walk_at "sz") only [p_mix]
    walk_at "ev"
  · rw [ifK_n h, if_neg (by rw [decide_eq_false h]; exact Bool.false_ne_true)]
    walk_at "ev"
    simp (disch := walk_at "sz") only [p_mix]
    walk_at "ev"
local macro_rules | `(tactic| walk_at "pf") => `(tactic| simp (disch := walk_at "sz") only [p_long])
theorem p_lot {n : Nat} {u l m : Int} (h1 : 0 ≤ l ∧ l ≤ 40) (h2 : 0 ≤ m ∧ m ≤ 40) : callN (n + 2) 14 [.int u, .int l, .int m] = some (.ret (.tuple ((lotF u l m).map S))) := by
  have w1 : (0 : Int) < 2 ^ l.toNat := Int.pow_pos (by decide)
  have w2 := mix_in (c := u) (p := 9929) (m := m + 1) (by omega)
  show fin (b__law_lot (callN (n + 1)) [.v (.int u), .v (.int l), .v (.int m), .no, .no, .no, .no, .no, .no, .no]) = _
  unfold b__law_lot
  walk_at "go"
  rw [for_rng (fun i => [.v (.int u), .v (.int l), .v (.int m), .v (.int (2 ^ l.toNat)), .v (.bool (decide (mixF u 9941 3 = 0))), .v (.int (mixF u 9931 (2 ^ l.toNat))), .od (kvT (rowsF u l i)), kS .no 0 i,
    (match i with | 0 => .no | i + 1 => .v (.int (u + 37 * (0 + (i : Int))))), (match i with | 0 => .no | i + 1 => .v (.int (placeF u l i)))])]
  · have rl := (rows_ok u l (mixF u 9929 (m + 1)).toNat).2.1
    walk_at "ev"
    rw [sortD_kvT (by omega)]
    walk_at "ev"
    rfl
  · rfl
  · intro i hi
    have rl := (rows_ok u l i).2.1
    have bl := kvT_len (rowsF u l i)
    have place : ∀ s9 : Sl, rIf (tTru (rVar 4)) (rBin fMod (rBin fAdd (rBin fMul (rBin fDiv (rVar 5) (rK (.int 8))) (rK (.int 8))) (rCall (callN (n + 1)) 10 (aCons (rVar 8) (aCons (rK (.int 9923)) (aCons (rK (.int 8)) aNil))))) (rVar 3)) (rCall (callN (n + 1)) 10 (aCons (rVar 8) (aCons (rK (.int 9907)) (aCons (rVar 3) aNil))))
        [.v (.int u), .v (.int l), .v (.int m), .v (.int (2 ^ l.toNat)), .v (.bool (decide (mixF u 9941 3 = 0))), .v (.int (mixF u 9931 (2 ^ l.toNat))), .od (kvT (rowsF u l i)), .v (.int (0 + (i : Int))), .v (.int (u + 37 * (0 + (i : Int)))), s9] = some (.ret (.int (placeF u l i))) := fun s9 => by
      walk_at "ev"
      unfold placeF
      by_cases h : mixF u 9941 3 = 0
      · rw [ifK_p h, if_pos (decide_eq_true h)]
        walk_at "go"
      · rw [ifK_n h, if_neg (by rw [decide_eq_false h]; exact Bool.false_ne_true)]
        walk_at "go"
    simp -implicitDefEqProofs (disch := walk_at "sz") only [e_on, ps_nm, sS_z, sS_s, map_some', onK_s, e_seq, e_set, e_bin, e_var, e_k, gS_z, gS_s, bE_ret, mul_i1, add_i, bS_ret, nxO_s, seqK_nx, place]
    walk_at "go"
    rw [put_addT]
    rfl
local macro_rules | `(tactic| walk_at "pf") => `(tactic| simp (disch := walk_at "sz") only [p_lot])
theorem p_among {n : Nat} {ls : List Tag} {b : Tag} (h1 : ∀ t ∈ ls, t.length ≤ 1000) (h2 : b.length ≤ 1000) (h3 : ls.length ≤ 1000) : callN (n + 1) 0 [.tuple (ls.map S), S b] = some (.ret (.tuple ((amF b ls).map S))) := by
  show fin (b_among (callN n) [.v (.tuple (ls.map S)), .v (S b), .no]) = _
  unfold b_among
  walk_at "ev"
  rw [lcL_filter (enc := S) (g := S) (t := fun a => decide (cut a none (some (b.length : Int)) = b))]
  · walk_at "ev"
    rw [am_cut]
  · intro t ht
    have := h1 t ht
    walk_at "ev"
    rw [turnK2_b (y := S t) (fun _ => by walk_at "ev")]
theorem blur_eq (q : Nat) (r : List Nat) : (bestS ltB [q] (r.map fun s => [s]) = bestS gtB [q] (r.map fun s => [s])) ↔ r.all (fun y => decide (y = q)) = true := by
  rw [best_same, List.all_eq_true]
  constructor
  · intro h y hy
    have := h [y] (List.mem_map.mpr ⟨y, hy, rfl⟩)
    injection this with this
    exact decide_eq_true this
  · intro h y hy
    obtain ⟨z, hz, rfl⟩ := List.mem_map.mp hy
    rw [of_decide_eq_true (h z hz)]
theorem p_blurred {n : Nat} {q : Nat} {r : List Nat} : callN (n + 1) 1 [.list ((q :: r).map fun s => S [s])] = some (.ret (S [blurF q r])) := by
  have e : ((q :: r).map fun s => S [s]) = ([q] :: r.map fun s => [s]).map S := by rw [List.map_cons, List.map_cons, List.map_map]; rfl
  rw [e]
  show fin (b_blurred (callN n) [.v (.list (([q] :: r.map fun s => [s]).map S))]) = _
  unfold b_blurred blurF
  simp only [e_seq, e_if, e_cmp, e_b1, e_aCons, e_var, gS_z, map_some', consK_r, e_aNil, consK2_v, b1K_s, min_s, max_s, vE_ret, eq_s]
  by_cases h : r.all (fun y => decide (y = q)) = true
  · rw [ifK_p ((blur_eq q r).mpr h), if_pos h]
    walk_at "ev"
  · rw [ifK_n (fun z => h ((blur_eq q r).mp z)), if_neg h]
    walk_at "ev"
theorem p_heard {n m : Nat} {ls : List Tag} {b : Tag} (h1 : ∀ t ∈ ls, t.length = m) (h2 : b.length ≤ 1000) (h3 : m ≤ 1000) (h4 : ls.length ≤ 1000) : callN (n + 2) 2 [.tuple (ls.map S), S b] = some (.ret (heardF ls b)) := by
  have h1' : ∀ t ∈ ls, t.length ≤ 1000 := fun t ht => by rw [h1 t ht]; exact h3
  show fin (b_heard (callN (n + 1)) [.v (.tuple (ls.map S)), .v (S b), .no, .no, .no]) = _
  unfold b_heard
  walk_at "ev"
  rw [p_among h1' h2 h4]
  walk_at "ev"
  rcases he : amF b ls with _ | ⟨t0, r⟩
  · rw [heard_nil he]
    rfl
  · have hm := am_mem (b := b) (ls := ls) (t := t0) (by rw [he]; exact List.mem_cons_self)
    have hl : b.length ≤ m := by have := congrArg List.length hm.2; rw [List.length_take, h1 t0 hm.1] at this; omega
    have hlen : ∀ t ∈ t0 :: r, t.length = m := fun t ht => h1 t (am_mem (b := b) (by rw [he]; exact ht)).1
    have h0 := hlen t0 List.mem_cons_self
    have hrl := am_len b ls
    rw [he, List.length_cons] at hrl
    walk_at "ev"
    rw [rangeD_map, lcL_map (g := fun i => S [soundF b t0 r i])]
    · walk_at "ev"
      rw [show ((List.range ((t0.length : Int) - (b.length : Int)).toNat).map fun i => S [soundF b t0 r i]) = ((List.range (t0.length - b.length)).map fun i => [soundF b t0 r i]).map S by rw [List.map_map, show ((t0.length : Int) - (b.length : Int)).toNat = t0.length - b.length by omega]; rfl]
      rw [join_s (jz1 _ _ (by rw [List.length_range]; omega)), join1, heard_cons he]
      walk_at "ev"
    · intro i hi
      have hi := List.mem_range.mp hi
      walk_at "ev"
      rw [lcL_map (enc := S) (g := fun t : Tag => S [t.getD (b.length + i) 0])]
      · walk_at "ev"
        rw [show ((t0 :: r).map fun t : Tag => S [t.getD (b.length + i) 0]) = ((t0.getD (b.length + i) 0 :: r.map fun u => u.getD (b.length + i) 0).map fun s => S [s]) by rw [List.map_cons, List.map_cons, List.map_map]; rfl, p_blurred]
        walk_at "ev"
        rfl
      · intro t ht
        have e1 := hlen t ht
        have e3 := at_S (t := t) (i := (b.length : Int) + (i : Nat)) (by omega) (by omega)
        rw [show ((b.length : Int) + (i : Nat)).toNat = b.length + i by omega] at e3
        walk_at "ev"
        rw [e3]
        walk_at "ev"
theorem p_grown {n : Nat} {b : Tag} (h : b.length ≤ 1000) : callN (n + 1) 3 [S b] = some (.ret (.tuple ((grow b).map entD))) := by
  show fin (b_grown (callN n) [.v (S b)]) = _
  unfold b_grown
  walk_at "ev"
  rfl
theorem idx_x {s : Tag} (h : 120 ∈ s) : fIndex (S s) (S [120]) = some (.int ((headX s).length : Nat)) := by
  show (fstI (fun z => decide (z = 120)) s).map (fun j => PyData.int (j : Nat)) = _
  have e : fstI (fun z => decide (z = 120)) s = some (headX s).length := by
    induction s with
    | nil => cases h
    | cons q s ih =>
      unfold fstI headX
      rw [List.takeWhile_cons]
      by_cases e : q = 120
      · rw [if_pos (decide_eq_true e), if_neg (by simp [e])]
        rfl
      · rw [if_neg (by simp [e]), if_pos (by simp [e])]
        rw [ih ((List.mem_cons.mp h).resolve_left fun z => e z.symm)]
        rfl
  rw [e]
  rfl
theorem p_after {n m : Nat} {e : Ent} {s : Option Tag} {r : List Ent} {w : Way} (h1 : e.1.length ≤ 500) (h2 : ∀ t, s = some t → t.length ≤ 400) (h3 : r.length ≤ 10000) (h4 : e.2 = true → r ≠ []) (h5 : ∀ x ∈ r, x.1.length ≤ 900) :
    callN (n + 2) 4 [entD e, encO s, .tuple (r.map entD), S (wayT w), .int (m : Int)] = some (.ret (.tuple ((aftF w m e s r).map entD))) := by
  obtain ⟨b, f⟩ := e
  have hb1 : b.length ≤ 500 := h1
  show fin (b_after (callN (n + 1)) [.v (.tuple [S b, .bool f]), .v (encO s), .v (.tuple (r.map entD)), .v (S (wayT w)), .v (.int (m : Int)), .no, .no]) = _
  unfold b_after
  cases s with
  | none =>
    show fin (sSeq _ _ [.v (.tuple [S b, .bool f]), .v .none, .v (.tuple (r.map entD)), .v (S (wayT w)), .v (.int (m : Int)), .no, .no]) = _
    walk_at "ev"
    unfold aftF
    dsimp only
    cases f with
    | false =>
      walk_at "ev"
      rw [if_neg (fun z => Bool.false_ne_true z.1)]
    | true =>
      walk_at "ev"
      rw [way_skip]
      by_cases hk : w = .skip
      · rw [decide_eq_true hk]
        walk_at "ev"
        by_cases hl : b.length < m
        · rw [ifK_p (by omega), if_pos ⟨trivial, hk, hl⟩]
          rcases r with _ | ⟨⟨b2, f2⟩, r⟩
          · exact absurd rfl (h4 rfl)
          · have hb2 : b2.length ≤ 900 := h5 (b2, f2) List.mem_cons_self
            rw [List.length_cons] at h3
            walk_at "ev"
            rw [show entD (b2, f2) = .tuple [S b2, .bool f2] from rfl]
            walk_at "ev"
            rw [p_grown (by omega)]
            walk_at "ev"
            rw [cut_from _ (by decide)]
            rw [show List.drop (1 : Int).toNat (List.map entD ((b2, f2) :: r)) = r.map entD from rfl]
            rw [add_t (by rw [List.length_map, List.length_map]; show 2 + r.length ≤ 100000; omega)]
            walk_at "ev"
            rw [List.map_append]
        · rw [ifK_n (by omega), if_neg (fun z => hl z.2.2)]
          walk_at "ev"
      · rw [decide_eq_false hk]
        walk_at "ev"
        rw [if_neg (fun z => hk z.2.1)]
  | some t =>
    have ht := h2 t rfl
    show fin (sSeq _ _ [.v (.tuple [S b, .bool f]), .v (S t), .v (.tuple (r.map entD)), .v (S (wayT w)), .v (.int (m : Int)), .no, .no]) = _
    rw [aft_some]
    walk_at "ev"
    by_cases hx : 120 ∈ t
    · have hgl := go_len (w := w) (b := b) hx
      have hgl2 := headX_lt hx
      rw [decide_eq_true hx, if_pos hx]
      walk_at "ev"
      rw [way_marks]
      by_cases hk : w = .marks
      · rw [ifK_p hk]
        walk_at "ev"
        rw [idx_x hx]
        walk_at "ev"
        rw [cut_headX hx]
        walk_at "ev"
        rw [p_grown (by rw [List.length_append]; omega)]
        walk_at "ev"
        rw [add_t (by rw [List.length_map, List.length_map]; show 2 + r.length ≤ 100000; omega)]
        walk_at "ev"
        rw [List.map_append, show goT w b t = b ++ headX t from if_pos hk]
      · rw [ifK_n hk]
        walk_at "ev"
        rw [p_grown (by omega)]
        walk_at "ev"
        rw [add_t (by rw [List.length_map, List.length_map]; show 2 + r.length ≤ 100000; omega)]
        walk_at "ev"
        rw [List.map_append, show goT w b t = b from if_neg hk]
    · rw [decide_eq_false hx, if_neg hx]
      walk_at "ev"
theorem it_ent {e : Ent} : fIt (entD e) (.int 0) = some (S e.1) := at0
local macro_rules | `(tactic| walk_at "pf") => `(tactic| simp (disch := walk_at "sz") only [it_ent])
theorem noLs_rows : ∀ l : List Row, noLs (l.map rowD) = true
  | [] => rfl
  | r :: l => by
    show (noL (rowD r) && noLs (l.map rowD)) = true
    rw [noLs_rows l]
    obtain ⟨b, s⟩ := r
    cases s <;> rfl
theorem p_walk {k n : Nat} {ls : List Tag} {w : Way} (ht : ∀ t ∈ ls, IsTag n t) (h0 : ls = [] → n = 1) (hn : n ≤ 10) (h4 : ls.length ≤ 1000) : callN (k + 3) 5 [.tuple (ls.map S), S (wayT w)] = some (.ret (.tuple ((wF ls w n []).map rowD))) := by
  have hl : ∀ t ∈ ls, t.length = n := fun t h => (ht t h).1
  have hw := wF_len (w := w) ht (b := []) (Nat.zero_le _)
  have h2 : 2 ^ (n - ([] : Tag).length + 1) ≤ 2 ^ 11 := two_mono (by rw [List.length_nil]; omega)
  have h3 : (2 : Nat) ^ 11 = 2048 := by decide
  show fin (b_walk (callN (k + 2)) [.v (.tuple (ls.map S)), .v (S (wayT w)), .no, .no, .no, .no]) = _
  unfold b_walk
  have hlong : rIf (tTru (rVar 0)) (rB1 fLen (aCons (rBin fIt (rVar 0) (rK (.int 0))) aNil)) (rK (.int 1)) [.v (.tuple (ls.map S)), .v (S (wayT w)), .no, .no, .no, .no] = some (.ret (.int (n : Int))) := by
    walk_at "ev"
    cases ls with
    | nil =>
      rw [h0 rfl]
      walk_at "ev"
      rfl
    | cons t r =>
      have := hl t List.mem_cons_self
      walk_at "ev"
      rw [this]
  simp only [e_seq, e_set, hlong, bS_ret, nxO_s, sS_z, sS_s, map_some', seqK_nx]
  walk_at "ev"
  have run := whl_run (t := tTru (rVar 3)) (s := sSeq (sSet 5 (rCall (callN (k + 2)) 2 (aCons (rVar 0) (aCons (rBin fIt (rBin fIt (rVar 3) (rK (.int 0))) (rK (.int 0))) aNil))))
    (sSeq (sApp 4 (rTup (aCons (rBin fIt (rBin fIt (rVar 3) (rK (.int 0))) (rK (.int 0))) (aCons (rVar 5) aNil))))
    (sSeq (sSet 3 (rCall (callN (k + 2)) 4 (aCons (rBin fIt (rVar 3) (rK (.int 0))) (aCons (rVar 5) (aCons (rSl (rVar 3) (oS (rK (.int 1))) oN) (aCons (rVar 1) (aCons (rVar 2) aNil)))))))
    sNil)))
    (fun m ρ => ∃ (st : List Ent) (acc : List Row) (s5 : Sl), ρ = [.v (.tuple (ls.map S)), .v (S (wayT w)), .v (.int (n : Int)), .v (.tuple (st.map entD)), .ol (acc.map rowD), s5] ∧ StOk ls w st ∧ acc ++ pr ls w n st = wF ls w n [] ∧ (∀ x ∈ st, x.1.length ≤ n) ∧ m = (pr ls w n st).length)
    (fun m ρ hI => ?_) 100000 (wF ls w n []).length [.v (.tuple (ls.map S)), .v (S (wayT w)), .v (.int (n : Int)), .v k_FIRST, .ol [], .no] ⟨[([], false)], [], .no, rfl, .one .nil, rfl, fun x hx => ?_, rfl⟩ (by omega)
  · obtain ⟨ρ', m', g1, ⟨st, acc, s5, rfl, g2, g3, g4, g5⟩, g6⟩ := run
    rw [g1]
    have e : st = [] := by
      cases st with
      | nil => rfl
      | cons e r =>
        have : tTru (rVar 3) [.v (.tuple (ls.map S)), .v (S (wayT w)), .v (.int (n : Int)), .v (.tuple ((e :: r).map entD)), .ol (acc.map rowD), s5] = some true := by walk_at "ev"
        rw [this] at g6
        cases g6
    subst e
    rw [show pr ls w n [] = [] from rfl, List.append_nil] at g3
    subst g3
    have hv : vw [.v (.tuple (ls.map S)), .v (S (wayT w)), .v (.int (n : Int)), .v (.tuple (([] : List Ent).map entD)), .ol ((wF ls w n []).map rowD), s5] = [.v (.tuple (ls.map S)), .v (S (wayT w)), .v (.int (n : Int)), .v (.tuple (([] : List Ent).map entD)), .v (.list ((wF ls w n []).map rowD)), vwS s5] := rfl
    simp only [seqK_nx, e_seq, e_ret, e_bor', hv]
    walk_at "ev"
    rw [borK_s (d := .tuple ((wF ls w n []).map rowD)) (noLs_rows _)]
    walk_at "ev"
  · obtain ⟨st, acc, s5, rfl, g2, g3, g4, rfl⟩ := hI
    cases st with
    | nil => exact .inl (by walk_at "ev")
    | cons e r =>
      refine .inr ⟨by walk_at "ev", ?_⟩
      have hs := pr_step ht g2
      have hst := st_step ht g2
      have hal := aft_len ht g4 g2
      have hsl := st_len ht g2
      have tot := congrArg List.length g3
      rw [List.length_append] at tot
      rw [List.length_cons] at hsl
      have hb := g4 e List.mem_cons_self
      have he1 : e.2 = true → r ≠ [] := by
        cases g2 with
        | one h => exact fun z => absurd z Bool.false_ne_true
        | two hx h => exact fun _ z => by cases z
      have ha := p_after (n := k) (m := n) (e := e) (s := hearO ls e.1) (r := r) (w := w) (by omega) (fun t ht' => by have := hear_len hl ht'; omega) (by omega) he1 (fun x hx => by have := g4 x (List.mem_cons_of_mem _ hx); omega)
      rw [← heard_enc] at ha
      refine ⟨[.v (.tuple (ls.map S)), .v (S (wayT w)), .v (.int (n : Int)), .v (.tuple ((aftF w n e (hearO ls e.1) r).map entD)), .ol ((acc ++ [(e.1, hearO ls e.1)]).map rowD), .v (heardF ls e.1)], (pr ls w n (aftF w n e (hearO ls e.1) r)).length, .inl ?_, by rw [hs]; exact Nat.lt_succ_self _, aftF w n e (hearO ls e.1) r, acc ++ [(e.1, hearO ls e.1)], .v (heardF ls e.1), rfl, hst, by rw [← g3, hs, List.append_assoc]; rfl, hal, rfl⟩
      walk_at "go"
      rw [p_heard hl (by omega) (by omega) h4]
      walk_at "go"
      rw [cut_from _ (by decide), show List.drop (1 : Int).toNat (List.map entD (e :: r)) = r.map entD from rfl, ha]
      walk_at "ev"
      rw [List.map_append, heard_enc]
      rfl
  · rcases List.mem_cons.mp hx with z | z
    · rw [z]; exact Nat.zero_le _
    · cases z
theorem wF_nil {w : Way} {n : Nat} {b : Tag} : wF [] w n b = [(b, none)] := rfl
theorem p_walkN {k n : Nat} {ls : List Tag} {w : Way} (ht : ∀ t ∈ ls, IsTag n t) (hn : n ≤ 10) (h4 : ls.length ≤ 1000) : callN (k + 3) 5 [.tuple (ls.map S), S (wayT w)] = some (.ret (.tuple ((wF ls w n []).map rowD))) := by
  by_cases h : ls = []
  · subst h
    rw [wF_nil, p_walk (n := 1) (fun t ht => by cases ht) (fun _ => rfl) (by decide) (by decide), wF_nil]
  · exact p_walk ht (fun z => absurd z h) hn h4
theorem p_told {n : Nat} {rs : List Row} (h1 : ∀ r ∈ rs, r.1.length ≤ 1000 ∧ ∀ s, r.2 = some s → s.length ≤ 1000) (h2 : rs.length ≤ 100000) : callN (n + 1) 6 [.tuple (rs.map rowD)] = some (.ret (.tuple ((toldF rs).map S))) := by
  show fin (b_told (callN n) [.v (.tuple (rs.map rowD)), .no, .no]) = _
  unfold b_told
  walk_at "ev"
  rw [lcL_fm (enc := rowD) (g := fun r => (toldR r).map S)]
  · walk_at "ev"
    unfold toldF
    rw [List.map_filterMap]
  · intro r hr
    obtain ⟨g1, g2⟩ := h1 r hr
    obtain ⟨b, s⟩ := r
    have g1 : b.length ≤ 1000 := g1
    cases s with
    | none =>
      show turn _ _ _ _ (.tuple [S b, .none]) = some none
      walk_at "ev"
    | some t =>
      have g3 := g2 t rfl
      show turn _ _ _ _ (.tuple [S b, S t]) = _
      walk_at "ev"
      by_cases hx : 120 ∈ t
      · rw [decide_eq_true hx, toldR_x hx]
        walk_at "ev"
        rfl
      · rw [decide_eq_false hx, toldR_s hx]
        walk_at "ev"
theorem p_asks {k n : Nat} {ls : List Tag} {w : Way} (ht : ∀ t ∈ ls, IsTag n t) (hn : n ≤ 10) (h4 : ls.length ≤ 1000) : callN (k + 4) 7 [.tuple (ls.map S), S (wayT w)] = some (.ret (.int (((wF ls w n []).length : Nat) : Int))) := by
  show fin (b_asks (callN (k + 3)) [.v (.tuple (ls.map S)), .v (S (wayT w))]) = _
  unfold b_asks
  walk_at "ev"
  rw [p_walkN ht hn h4]
  walk_at "ev"
theorem row_small {ls : List Tag} {w : Way} {n : Nat} (ht : ∀ t ∈ ls, IsTag n t) : ∀ f b, b.length ≤ n → (∀ r ∈ wk ls w f b, r.1.length ≤ n ∧ ∀ s, r.2 = some s → s.length ≤ n) ∧ ∀ s, Fit ls b s → ∀ r ∈ bh ls w f b s, r.1.length ≤ n ∧ ∀ s, r.2 = some s → s.length ≤ n
  | 0, b, _ => ⟨fun r h => (by cases h), fun s _ r h => (by cases h)⟩
  | f + 1, b, hb => by
    have hl : ∀ t ∈ ls, t.length = n := fun t h => (ht t h).1
    refine ⟨fun r hr => ?_, fun s hs r hr => ?_⟩
    · rcases List.mem_cons.mp hr with z | z
      · rw [z]
        exact ⟨hb, fun s hs => by have := hear_len hl hs; omega⟩
      · exact (row_small ht f b hb).2 _ fit_hear r z
    · rcases s with _ | s
      · cases hr
      · unfold bh at hr
        by_cases hx : 120 ∈ s
        · rw [if_pos hx] at hr
          obtain ⟨s0, q1, q2, q3⟩ := hs s rfl hx
          have e0 := hear_len hl q1
          have hg := go_len (w := w) (b := b) hx
          have lq : ∀ q : Nat, (goT w b s ++ [q]).length ≤ n := fun q => by rw [List.length_append, List.length_singleton]; omega
          rcases List.mem_append.mp hr with z | z
          · exact (row_small ht f _ (lq 48)).1 r z
          · by_cases hk : w = .skip ∧ hearO ls (goT w b s ++ [48]) = none
            · rw [if_pos hk] at z
              have eb : goT w b s = b := by unfold goT; rw [hk.1]; rfl
              exact (row_small ht f _ (lq 49)).2 _ (by rw [eb] at hk ⊢; exact fit_x ht q1 q2 hk.2) r z
            · rw [if_neg hk] at z
              exact (row_small ht f _ (lq 49)).1 r z
        · rw [if_neg hx] at hr
          cases hr
theorem wF_small {ls : List Tag} {w : Way} {n : Nat} (ht : ∀ t ∈ ls, IsTag n t) : ∀ r ∈ wF ls w n [], r.1.length ≤ n ∧ ∀ s, r.2 = some s → s.length ≤ n := (row_small ht _ [] (Nat.zero_le _)).1
theorem told_asc {ls : List Tag} {w : Way} {n : Nat} (hL : IsLot n ls) {r : Row} (hr : r ∈ wF ls w n []) : ∀ t ∈ toldF [r], t ∈ ls := fun t h => by
  rw [← told_all (w := w) hL]
  unfold toldF at h ⊢
  obtain ⟨a, ha, hb⟩ := List.mem_filterMap.mp h
  rcases List.mem_cons.mp ha with z | z
  · exact List.mem_filterMap.mpr ⟨r, hr, by rw [← z]; exact hb⟩
  · cases z
/-- a turn of first_at -/
theorem fa_turn {k n : Nat} {ls : List Tag} {w : Way} (hL : IsLot n ls) (hn : n ≤ 10) {tag : Tag} (ha : Asc tag) {r : Row} {j : Nat} {ρ3 ρ4 : Sl} (hr : r ∈ wF ls w n []) :
    ∃ ρ', onPat (.tp [3, 4]) (sSeq (sIf (tCmp cEq (rCall (callN (k + 1)) 6 (aCons (rTup (aCons (rVar 4) aNil)) aNil)) (rTup (aCons (rVar 2) aNil))) (sSeq (sRet (rBin fAdd (rVar 3) (rK (.int 1)))) sNil) sNil) sNil)
      (.tuple [.int (j : Nat), rowD r]) [.v (.tuple (ls.map S)), .v (S (wayT w)), .v (S tag), ρ3, ρ4] = (if toldR r = some tag then some (.rt (.int ((j : Int) + 1)) ρ') else some (.nx [.v (.tuple (ls.map S)), .v (S (wayT w)), .v (S tag), .v (.int (j : Nat)), .v (rowD r)])) := by
  have sm := wF_small hL.tg r hr
  have pt : callN (k + 1) 6 [.tuple [rowD r]] = some (.ret (.tuple ((toldF [r]).map S))) := p_told (rs := [r]) (fun x hx => by
    rcases List.mem_cons.mp hx with z | z
    · rw [z]; exact ⟨by omega, fun s hs => by have := sm.2 s hs; omega⟩
    · cases z) (by show 1 ≤ 100000; decide)
  have ce : cEq (.tuple ((toldF [r]).map S)) (.tuple [S tag]) = some (decide (toldF [r] = [tag])) := cEq_tup (b := [tag]) (fun t h => tag_asc (hL.tg t (told_asc hL hr t h))) (fun t h => by
    rcases List.mem_cons.mp h with z | z
    · rw [z]; exact ha
    · cases z)
  have iff : toldF [r] = [tag] ↔ toldR r = some tag := by
    cases e : toldR r with
    | none => rw [told_c0 e]; exact ⟨fun z => (by cases z), fun z => (by cases z)⟩
    | some t => rw [told_c1 e]; exact ⟨fun z => (by injection z with z; rw [z]), fun z => (by injection z with z; rw [z])⟩
  refine ⟨[.v (.tuple (ls.map S)), .v (S (wayT w)), .v (S tag), .v (.int (j : Nat)), .v (rowD r)], ?_⟩
  walk_at "ev"
  rw [pt]
  walk_at "ev"
  rw [ce]
  by_cases h : toldR r = some tag
  · rw [ifK_p (iff.mpr h), if_pos h]
    walk_at "ev"
  · rw [ifK_n (fun z => h (iff.mp z)), if_neg h]
    walk_at "ev"
theorem p_first_at {k n : Nat} {ls : List Tag} {w : Way} (hL : IsLot n ls) (hn : n ≤ 10) (h4 : ls.length ≤ 1000) {tag : Tag} (ha : Asc tag) {j : Nat} {r : Row} (hj : (wF ls w n [])[j]? = some r) (hr : toldR r = some tag) (hb : ∀ i r', i < j → (wF ls w n [])[i]? = some r' → toldR r' ≠ some tag) :
    callN (k + 4) 8 [.tuple (ls.map S), S (wayT w), S tag] = some (.ret (.int ((j : Int) + 1))) := by
  show fin (b_first_at (callN (k + 3)) [.v (.tuple (ls.map S)), .v (S (wayT w)), .v (S tag), .no, .no]) = _
  unfold b_first_at
  walk_at "ev"
  rw [p_walkN hL.tg hn h4]
  walk_at "ev"
  have run := for_until (f := onPat (.tp [3, 4]) (sSeq (sIf (tCmp cEq (rCall (callN (k + 3)) 6 (aCons (rTup (aCons (rVar 4) aNil)) aNil)) (rTup (aCons (rVar 2) aNil))) (sSeq (sRet (rBin fAdd (rVar 3) (rK (.int 1)))) sNil) sNil) sNil))
    (fun _ ρ => ∃ ρ3 ρ4, ρ = [.v (.tuple (ls.map S)), .v (S (wayT w)), .v (S tag), ρ3, ρ4]) (x := .int ((j : Int) + 1)) (ds := enumD ((wF ls w n []).map rowD)) (ρ := [.v (.tuple (ls.map S)), .v (S (wayT w)), .v (S tag), .no, .no]) j (.tuple [.int (j : Nat), rowD r])
    (enum_at hj) ⟨.no, .no, rfl⟩ (fun i d ρ hi hd hI => ?_) (fun ρ hI => ?_)
  · obtain ⟨ρ', e⟩ := run
    rw [e]
    rfl
  · obtain ⟨ρ3, ρ4, rfl⟩ := hI
    obtain ⟨u, hu, rfl⟩ := enumD_get hd
    rw [List.getElem?_map] at hu
    rcases hq : (wF ls w n [])[i]? with _ | r'
    · rw [hq] at hu; cases hu
    rw [hq] at hu
    cases hu
    obtain ⟨ρ', e⟩ := fa_turn (k := k + 2) hL hn ha (j := i) (ρ3 := ρ3) (ρ4 := ρ4) (List.mem_of_getElem? hq)
    rw [if_neg (hb i r' hi hq)] at e
    exact ⟨_, e, _, _, rfl⟩
  · obtain ⟨ρ3, ρ4, rfl⟩ := hI
    obtain ⟨ρ', e⟩ := fa_turn (k := k + 2) hL hn ha (j := j) (ρ3 := ρ3) (ρ4 := ρ4) (List.mem_of_getElem? hj)
    rw [if_pos hr] at e
    exact ⟨ρ', e⟩
theorem p_first_no {k n : Nat} {ls : List Tag} {w : Way} (hL : IsLot n ls) (hn : n ≤ 10) (h4 : ls.length ≤ 1000) {tag : Tag} (ha : Asc tag) (hb : tag ∉ ls) :
    callN (k + 4) 8 [.tuple (ls.map S), S (wayT w), S tag] = some (.exc 0) := by
  show fin (b_first_at (callN (k + 3)) [.v (.tuple (ls.map S)), .v (S (wayT w)), .v (S tag), .no, .no]) = _
  unfold b_first_at
  walk_at "ev"
  rw [p_walkN hL.tg hn h4]
  walk_at "ev"
  have run := for_run (f := onPat (.tp [3, 4]) (sSeq (sIf (tCmp cEq (rCall (callN (k + 3)) 6 (aCons (rTup (aCons (rVar 4) aNil)) aNil)) (rTup (aCons (rVar 2) aNil))) (sSeq (sRet (rBin fAdd (rVar 3) (rK (.int 1)))) sNil) sNil) sNil))
    (fun _ ρ => ∃ ρ3 ρ4, ρ = [.v (.tuple (ls.map S)), .v (S (wayT w)), .v (S tag), ρ3, ρ4]) (ds := enumD ((wF ls w n []).map rowD)) (ρ := [.v (.tuple (ls.map S)), .v (S (wayT w)), .v (S tag), .no, .no]) ⟨.no, .no, rfl⟩ (fun i d ρ hd hI => ?_)
  · obtain ⟨ρ', e, -⟩ := run
    rw [e]
    rfl
  · obtain ⟨ρ3, ρ4, rfl⟩ := hI
    obtain ⟨u, hu, rfl⟩ := enumD_get hd
    rw [List.getElem?_map] at hu
    rcases hq : (wF ls w n [])[i]? with _ | r'
    · rw [hq] at hu; cases hu
    rw [hq] at hu
    cases hu
    obtain ⟨ρ', e⟩ := fa_turn (k := k + 2) hL hn ha (j := i) (ρ3 := ρ3) (ρ4 := ρ4) (List.mem_of_getElem? hq)
    rw [if_neg (fun z => hb (told_asc hL (List.mem_of_getElem? hq) tag (by rw [told_c1 z]; exact List.mem_cons_self)))] at e
    exact ⟨_, .inl e, _, _, rfl⟩
/-! k04: beginnings counted -/
section
variable {ρ : List Sl} {d dk : PyData}
def iLkK (o : Option RO) : Option RL := match o with
  | some (.ret d) => (lkOf d).map fun kvs => .vs (kvs.map fun kv => ktD kv.1)
  | _ => none
theorem e_iLk {r : RE} : iLk r ρ = iLkK (r ρ) := rfl
theorem iLkK_s {a : Addr} {kvs : List (Key × PyData)} : iLkK (some (.ret (lkD a kvs))) = some (.vs (kvs.map fun kv => ktD kv.1)) := by
  show (lkOf (lkD a kvs)).map _ = _
  rw [lkOf_is]
  rfl
theorem e_dgetL {a b : RE} : rDGetL a b ρ = vE (a ρ) fun d => vE (b ρ) fun dk => lgK (lkOf d) (keyOf dk) := rfl
theorem lgK_s {a : Addr} {kvs : List (Key × PyData)} {q : Key} : lgK (lkOf (lkD a kvs)) (some q) = (Dl.getD kvs q).map .ret := by
  rw [lkOf_is]
  rfl
end
local macro_rules | `(tactic| walk_at "pf") => `(tactic| simp (disch := walk_at "sz") only [e_iLk, iLkK_s, e_dgetL, lgK_s])
def stR (ns : List Int) (L : Nat) (ls Bs : List Tag) : List Sl := [.v (scrD ns), .no, .no, .v (.int (L : Int)), .v (.tuple (ls.map S)), .od (cntK Bs), .no, .no, .no, .no, .no, .no, .no, .no, .no, .no, .no, .no]
def stR6 (ns : List Int) (L : Nat) (ls Bs : List Tag) (t : Tag) : List Sl := [.v (scrD ns), .no, .no, .v (.int (L : Int)), .v (.tuple (ls.map S)), .od (cntK Bs), .v (S t), .no, .no, .no, .no, .no, .no, .no, .no, .no, .no, .no]
section
variable {k L i : Nat} {ns : List Int} {ls Bs : List Tag} {t : Tag}
theorem cnt_small (h : Bs.length ≤ 1000000) : (cntK Bs).length ≤ 1000000 := by
  unfold cntK
  rw [List.length_map]
  have h2 : (keysF Bs).length ≤ Bs.length := ((keys_ok Bs).1.length_le_of_subset fun x hx => ((keys_ok Bs).2 x).mp hx)
  omega
theorem l3_turn (ht : t.length ≤ 1000) (hB : Bs.length ≤ 1000000) : onPat (.nm 7) (l_law_3 (callN k)) (.int (0 + (i : Int))) (stR6 ns L ls Bs t) = some (.nx (stR6 ns L ls (Bs ++ [t.take i]) t)) := by
  have hc := cnt_small hB
  have g := cnt_get Bs (t.take i)
  have p := cnt_put Bs (t.take i)
  unfold l_law_3 stR6
  walk_at "go"
  rw [Int.zero_add, cut_to t (by omega : (0 : Int) ≤ (i : Int)), Int.toNat_natCast]
  rw [show (Sum.inr { cps := (t.take i).toArray } : Key) = kyT (t.take i) from rfl, g]
  walk_at "go"
  rw [p]
theorem pre_s (t : Tag) (i : Nat) : ((List.range (i + 1)).map fun n => t.take n) = ((List.range i).map fun n => t.take n) ++ [t.take i] := by
  rw [List.range_succ, List.map_append]
  rfl
theorem l2_turn (ht : t.length ≤ 1000) (hL : L ≤ 1000) (hB : Bs.length ≤ 900000) : onPat (.nm 6) (l_law_2 (callN k)) (S t) (stR ns L ls Bs) = some (.nx (stR ns L ls (Bs ++ (List.range (L + 1)).map fun n => t.take n))) := by
  have run := for_rng (f := onPat (.nm 7) (l_law_3 (callN k))) (lo := 0) (n := L + 1) (ρ := stR6 ns L ls Bs t) (fun i => stR6 ns L ls (Bs ++ (List.range i).map fun n => t.take n) t) (by rw [List.range_zero, List.map_nil, List.append_nil]) (fun i hi => by
    have hb : (Bs ++ (List.range i).map fun n => t.take n).length ≤ 1000000 := by rw [List.length_append, List.length_map, List.length_range]; omega
    rw [l3_turn ht hb, List.append_assoc, ← pre_s])
  unfold stR6 at run
  unfold l_law_2 stR
  walk_at "go"
  rw [show ((L : Int) + 1).toNat = L + 1 by omega, run]
  walk_at "go"
theorem l2_loop {L : Nat} (hL : L ≤ 1000) {ls0 : List Tag} : ∀ {ls Bs : List Tag}, (∀ t ∈ ls, t.length ≤ 1000) → Bs.length + ls.length * (L + 1) ≤ 900000 → forL (onPat (.nm 6) (l_law_2 (callN k))) (ls.map S) (stR ns L ls0 Bs) = some (.nx (stR ns L ls0 (Bs ++ begF L ls)))
  | [], Bs, _, _ => by
    show some (Res.nx (stR ns L ls0 Bs)) = some (Res.nx (stR ns L ls0 (Bs ++ [])))
    rw [List.append_nil]
  | t :: r, Bs, ht, hB => by
    rw [List.length_cons, Nat.add_mul, Nat.one_mul] at hB
    rw [List.map_cons, for_c (l2_turn (ht t List.mem_cons_self) hL (by omega)), l2_loop hL (fun u hu => ht u (List.mem_cons_of_mem _ hu)) (by rw [List.length_append, List.length_map, List.length_range]; omega), List.append_assoc]
    rfl
end
/-! k04: who is crowded -/
section
variable {k L : Nat} {ns : List Int} {ls Bs : List Tag}
theorem vF_scr : vF (.v (scrD ns)) = true := by
  show (scrOf (ns.map fun n => (PyData.int n, PyData.none))).isSome = true
  rw [scrOf_map]
  rfl
theorem noFs_S : ∀ l : List Tag, noFs (l.map S) = true
  | [] => rfl
  | t :: r => by
    show (noF (S t) && noFs (r.map S)) = true
    rw [noFs_S r]
    rfl
def stC (ns : List Int) (L : Nat) (ls Bs C : List Tag) : List Sl := [.v (scrD ns), .no, .no, .v (.int (L : Int)), .v (.tuple (ls.map S)), .od (cntK Bs), .no, .no, .v (.list (C.map S)), .no, .no, .no, .no, .no, .no, .no, .no, .no]
theorem crowd_now (hB : Bs.length ≤ 1000000) : sLockD 5 (sSet 8 (rOf (rLc [15] (.nm 15) (iLk (rVar 5)) (tCmp cGt (rDGetL (rVar 5) (rVar 15)) (rK (.int 1))) (rVar 15)))) (stR ns L ls Bs) = some (.nx (stC ns L ls Bs ((keysF Bs).filter fun b => decide (1 < Bs.count b)))) := by
  have hc := cnt_small hB
  have nS : noF (.tuple (ls.map S)) = true := noFs_S ls
  have nC : noF (.list (((keysF Bs).filter fun b => decide (1 < Bs.count b)).map S)) = true := noFs_S _
  refine (sLockD_is (kvs := cntK Bs) (ρ2 := stC ns L ls Bs ((keysF Bs).filter fun b => decide (1 < Bs.count b))) rfl ?_ (by show 5 < 18; decide) ?_ fun a => ?_).trans rfl
  · show (vF (.v (scrD ns)) && (true && (true && (true && (noF (.tuple (ls.map S)) && _))))) = true
    rw [vF_scr, nS]
    rfl
  · show (vF (.v (scrD ns)) && (true && (true && (true && (noF (.tuple (ls.map S)) && (true && (true && (noF (.list (((keysF Bs).filter fun b => decide (1 < Bs.count b)).map S)) && _))))))))= true
    rw [vF_scr, nS, nC]
    rfl
  · unfold stR stC
    simp only [List.set_cons_succ, List.set_cons_zero]
    walk_at "go"
    rw [show ((cntK Bs).map fun kv => ktD kv.1) = (keysF Bs).map S by
      unfold cntK
      rw [List.map_map]
      rfl]
    have kl : (keysF Bs).length ≤ 1000000 := by
      have : (cntK Bs).length = (keysF Bs).length := List.length_map ..
      omega
    walk_at "go"
    rw [lcL_filter (enc := S) (g := S) (t := fun b => decide (1 < Bs.count b))]
    · walk_at "go"
    · intro b hb
      walk_at "go"
      rw [show Dl.getD (cntK Bs) (Sum.inr { cps := b.toArray }) = some (.int ((Bs.count b : Nat) : Int)) by
        unfold cntK
        rw [show (Sum.inr { cps := b.toArray } : Key) = kyT b from rfl, get_map (f := fun b => .int ((Bs.count b : Nat) : Int)), if_pos hb]]
      walk_at "go"
      rw [show decide ((1 : Int) < ((Bs.count b : Nat) : Int)) = decide (1 < Bs.count b) by
        by_cases h : 1 < Bs.count b
        · rw [decide_eq_true h, decide_eq_true (by omega : (1 : Int) < ((Bs.count b : Nat) : Int))]
        · rw [decide_eq_false h, decide_eq_false (by omega : ¬ (1 : Int) < ((Bs.count b : Nat) : Int))]]
      rw [turnK2_b (y := S b) (fun _ => by walk_at "go")]
end
/-! k04: by each way -/
theorem e_stpN {i : Nat} {ρ : List Sl} : rStp (rVar i) oN oN (oS (rK (.int 2))) ρ = vE (rVar i ρ) fun d => (stF d none none 2).map .ret := rfl
theorem cNe_S0 : cNe (S []) (S []) = some false := cNe_t (sh_ok (n := 0) (sh_S fun q hq => by cases hq) (by decide))
theorem cNe_L0 : cNe (.list []) (.list []) = some false := cNe_t (sh_ok (n := 1) (sh_lst fun d hd => by cases hd) (by decide))
theorem sh_nL {l : List Nat} : SeqAt.shaped (.list (l.map fun s : Nat => .int ((s : Nat) : Int))) = true := sh_ok (n := 1) (sh_lst fun d hd => by
  obtain ⟨s, _, rfl⟩ := List.mem_map.mp hd
  exact sh_int) (by decide)
def st4 (ns : List Int) (ls : List Tag) : List Sl := [.v (scrD ns), .no, .no, .no, .v (.tuple (ls.map S)), .no, .no, .no, .no, .no, .no, .no, .no, .no, .no, .no, .no, .no]
section
variable {k L : Nat} {ns : List Int} {ls : List Tag}
theorem l4_turn (hL : IsLot L ls) (hn : L ≤ 10) (h4 : ls.length ≤ 40) (w : Way) : onPat (.nm 11) (l_law_4 (callN (k + 5))) (S (wayT w)) (st4 ns ls) = some (.nx (st4 ns ls)) := by
  have hl : ∀ t ∈ ls, t.length = L := fun t h => (hL.tg t h).1
  have hnd := lot_nodup hL
  have hasc : ∀ t ∈ ls, Asc t := fun t h => tag_asc (hL.tg t h)
  have hta := told_all (w := w) hL
  have hwl := wF_len (w := w) hL.tg (b := []) (Nat.zero_le _)
  have h2 : 2 ^ (L - ([] : Tag).length + 1) ≤ 2 ^ 11 := two_mono (by rw [List.length_nil]; omega)
  have h3 : (2 : Nat) ^ 11 = 2048 := by decide
  have sm := wF_small (w := w) hL.tg
  have PW : callN (k + 5) 5 [.tuple (ls.map S), S (wayT w)] = some (.ret (.tuple ((wF ls w L []).map rowD))) := p_walkN (k := k + 2) hL.tg hn (by omega)
  have PT : ∀ rs : List Row, (∀ r ∈ rs, r ∈ wF ls w L []) → rs.length ≤ 100000 → callN (k + 5) 6 [.tuple (rs.map rowD)] = some (.ret (.tuple ((toldF rs).map S))) := fun rs h hr => p_told (n := k + 4) (fun r hr => by have := sm r (h r hr); exact ⟨by omega, fun s hs => by have := this.2 s hs; omega⟩) hr
  have PA := p_asks (k := k + 1) (w := w) hL.tg hn (show ls.length ≤ 1000 by omega)
  obtain ⟨p, hp, hps⟩ := stF_half h4
  have hLp := sub_lot hL hps
  have PB := p_asks (k := k + 1) (w := w) hLp.tg hn (show p.length ≤ 1000 by have := hps.length_le; omega)
  have hsub := sub_ask (w := w) hL hps
  have h0 : atI ((wF ls w L []).map rowD) 0 = some (.tuple [S [], encO (hearO ls [])]) := by rw [wF_eq, List.map_cons]; exact at0
  have hu := toldD_up (rs := wF ls w L []) (by rw [hta]; exact hnd)
  rw [hta] at hu
  have hs : fSortSet (.list (ls.map fun t => .int (((plR (wF ls w L []) t + 1 : Nat)) : Int))) = some (.list (ls.map fun t => .int (((plR (wF ls w L []) t + 1 : Nat)) : Int))) := by
    have := sortSet_n hu (by rw [List.length_map]; omega)
    rw [List.map_map] at this
    exact this
  have hsh : SeqAt.shaped (.list (ls.map fun t => .int (((plR (wF ls w L []) t + 1 : Nat)) : Int))) = true := by
    have := sh_nL (l := ls.map fun t => plR (wF ls w L []) t + 1)
    rw [List.map_map] at this
    exact this
  unfold l_law_4 st4
  walk_at "go"
  rw [PW]
  walk_at "go"
  rw [PT _ (fun r h => h) (by omega), hta]
  walk_at "go"
  rw [cNe_t (shaped_tup hasc)]
  walk_at "go"
  rw [e_lenSet]
  walk_at "go"
  rw [lcL_map (enc := rowD) (g := fun r => S r.1) (fun r _ => by
    obtain ⟨b, s⟩ := r
    show turn _ _ _ _ (.tuple [S b, encO s]) = _
    walk_at "go")]
  rw [show ((wF ls w L []).map fun r => S r.1) = ((wF ls w L []).map (·.1)).map S by rw [List.map_map]; rfl]
  walk_at "go"
  rw [lenSet_l (by rw [List.length_map]; omega), nub_id walk_nd, List.length_map]
  walk_at "go"
  rw [h0]
  walk_at "go"
  rw [lcL_map (enc := S) (g := fun t => .int (((plR (wF ls w L []) t + 1 : Nat)) : Int)) (fun t ht => by
    obtain ⟨r, g1, g2, g3⟩ := pl_at (rs := wF ls w L []) (t := t) (by rw [hta]; exact ht)
    have P := p_first_at (k := k + 1) hL hn (show ls.length ≤ 1000 by omega) (hasc t ht) g1 g2 g3
    walk_at "go"
    rw [P]
    walk_at "go"
    rw [Int.natCast_add]
    rfl)]
  walk_at "go"
  rw [e_sortSet]
  walk_at "go"
  rw [hs]
  walk_at "go"
  rw [cNe_t hsh]
  walk_at "go"
  rw [zipD_same]
  walk_at "go"
  rw [lcL_fm (enc := fun t => .tuple [S t, .int (((plR (wF ls w L []) t + 1 : Nat)) : Int)]) (g := fun _ => none) (fun t ht => by
    obtain ⟨r, g1, g2, g3⟩ := pl_at (rs := wF ls w L []) (t := t) (by rw [hta]; exact ht)
    walk_at "go"
    rw [show (((plR (wF ls w L []) t + 1 : Nat)) : Int) - 1 = ((plR (wF ls w L []) t : Nat) : Int) by omega, show (((plR (wF ls w L []) t + 1 : Nat)) : Int) = ((plR (wF ls w L []) t : Nat) : Int) + 1 by omega, cut_map, cut_one g1]
    have P := PT [r] (fun x hx => by rw [List.mem_singleton.mp hx]; exact List.mem_of_getElem? g1) (by show 1 ≤ 100000; decide)
    rw [P, told_c1 g2]
    walk_at "go"
    rw [show cNe (.tuple ([t].map S)) (.tuple [S t]) = some false from cNe_t (shaped_tup (l := [t]) fun u hu => by rw [List.mem_singleton.mp hu]; exact hasc t ht)]
    walk_at "go")]
  rw [show ls.filterMap (fun _ => (none : Option PyData)) = [] by simp]
  walk_at "go"
  rw [cNe_L0]
  walk_at "go"
  simp only [e_stpN]
  walk_at "go"
  rw [hp]
  walk_at "go"
  rw [PB]
  walk_at "go"
  rw [PA]
  walk_at "go"
  rw [ifK_n (by omega)]
  walk_at "go"
end
/-! k04: one drawn lot -/
section
variable {k L : Nat} {ns : List Int} {ls : List Tag}
theorem beg_len (hL : IsLot L ls) : ∀ b ∈ begF L ls, b.length ≤ L := fun b hb => by
  obtain ⟨l, h1, h2⟩ := List.mem_flatten.mp hb
  obtain ⟨t, ht, rfl⟩ := List.mem_map.mp h1
  obtain ⟨n, _, rfl⟩ := List.mem_map.mp h2
  rw [List.length_take, (hL.tg t ht).1]
  omega
theorem begF_len : ∀ ls : List Tag, (begF L ls).length = ls.length * (L + 1)
  | [] => by rw [List.length_nil, Nat.zero_mul]; rfl
  | t :: r => by
    show (_ ++ begF L r).length = _
    rw [List.length_append, begF_len r, List.length_map, List.length_range, List.length_cons, Nat.add_mul, Nat.one_mul, Nat.add_comm]
theorem cw_eq (hL : IsLot L ls) : ((keysF (begF L ls)).filter fun b => decide (1 < (begF L ls).count b)) = cwF L ls := by
  unfold cwF
  refine List.filter_congr fun b _ => ?_
  rw [beg_count fun t ht => (hL.tg t ht).1]
theorem cw_lens (hL : IsLot L ls) : ∀ b ∈ cwF L ls, b.length ≤ L := fun b hb => beg_len hL b (((keys_ok _).2 b).mp (List.mem_filter.mp hb).1)
def asW (L : Nat) (ls : List Tag) (w : Way) : PyData := .int (((wF ls w L []).length : Nat) : Int)
theorem gtW {a b : Way} : cGt (asW L ls a) (asW L ls b) = some (decide ((wF ls b L []).length < (wF ls a L []).length)) := by
  show some (decide (((wF ls b L []).length : Int) < ((wF ls a L []).length : Int))) = _
  exact congrArg some (decide_eq_decide.mpr (by omega))
theorem neW {a b : Nat} (h : a = b) : cNe (.int (a : Int)) (.int (b : Int)) = some false := by
  rw [h]
  exact cNe_t (sh_ok (n := 0) sh_int (by decide))
theorem asW_ok {l : List Way} : cNe (.list (l.map (asW L ls))) (.list (l.map (asW L ls))) = some false := cNe_t (sh_ok (n := 1) (sh_lst fun d hd => by
  obtain ⟨w, _, rfl⟩ := List.mem_map.mp hd
  exact sh_int) (by decide))
theorem fl_join {t : Tag} (ht : IsTag L t) (hL : L ≤ 100) : fJoin (S []) (.list (t.map fun q => S [97 - q])) = some (S (flT t)) := by
  have e : (t.map fun q => S [97 - q]) = (t.map fun q => [97 - q]).map S := by rw [List.map_map]; rfl
  have hs : ((t.map fun q => [97 - q]).map List.length).sum = t.length := by
    rw [List.map_map]
    clear ht e
    induction t with
    | nil => rfl
    | cons q r ih =>
      rw [List.map_cons, List.sum_cons, ih, List.length_cons]
      show 1 + r.length = _
      omega
  rw [e, join_s (by rw [hs, ht.1, List.length_map, ht.1, List.length_nil]; omega), join1]
  rfl
def slots0 (ns : List Int) : List Sl := [.v (scrD ns), .no, .no, .no, .no, .no, .no, .no, .no, .no, .no, .no, .no, .no, .no, .no, .no, .no]
theorem l1_turn {i : Nat} (hi : i < 16) : onPat (.nm 1) (l_law_1 (callN (k + 5))) (.int (0 + (i : Int))) (slots0 ns) = some (.nx (slots0 ns)) := by
  unfold l_law_1 slots0
  have h9 := Int.emod_nonneg (0 + (i : Int)) (show (9 : Int) ≠ 0 by decide)
  have h9' := Int.emod_lt_of_pos (0 + (i : Int)) (show (0 : Int) < 9 by decide)
  walk_at "go"
  generalize cellF ns ((0 + (i : Int)) % 9) + 31 * (0 + (i : Int)) = u
  obtain ⟨L, h1, hn, eL⟩ : ∃ L : Nat, 1 ≤ L ∧ L ≤ 10 ∧ longF u = (L : Nat) := by
    have := long_in u
    exact ⟨(longF u).toNat, by omega, by omega, by omega⟩
  rw [eL]
  walk_at "go"
  obtain ⟨hL, h4⟩ := lot_ok u (L : Int) 20 (by decide)
  generalize lotF u (L : Int) 20 = ls at hL h4 ⊢
  rw [Int.toNat_natCast] at hL
  have h4 : ls.length ≤ 20 := h4
  have hasc : ∀ t ∈ ls, Asc t := fun t h => tag_asc (hL.tg t h)
  have run := l2_loop (k := k + 5) (ns := ns) (L := L) (ls0 := ls) (by omega) (ls := ls) (Bs := []) (fun t ht => by rw [(hL.tg t ht).1]; omega) (by
    rw [List.length_nil]
    have : ls.length * (L + 1) ≤ 20 * 11 := Nat.mul_le_mul h4 (by omega)
    omega)
  rw [List.nil_append] at run
  have hB : (begF L ls).length ≤ 1000000 := by
    rw [begF_len]
    have : ls.length * (L + 1) ≤ 20 * 11 := Nat.mul_le_mul h4 (by omega)
    omega
  have cn := crowd_now (ns := ns) (L := L) (ls := ls) hB
  rw [cw_eq hL] at cn
  have hcl := cw_lens hL
  have hcw : (cwF L ls).length ≤ 1000000 := Nat.le_trans (List.length_filter_le _ _) (Nat.le_trans ((keys_ok _).1.length_le_of_subset fun x hx => ((keys_ok _).2 x).mp hx) hB)
  obtain ⟨d1, d2, d3⟩ := due_ok hL
  have hbc : ∀ b, (begF L ls).count b = (amF b ls).length := fun b => beg_count fun t ht => (hL.tg t ht).1
  have hget := cnt_get (begF L ls)
  generalize hBs : begF L ls = Bs at run cn hB hbc hget
  generalize hC : cwF L ls = C at cn hcl hcw d1 d2
  unfold stR at run cn
  unfold stC at cn
  rw [show cntK [] = [] from rfl] at run
  rw [run]
  walk_at "go"
  rw [cn]
  walk_at "go"
  rw [lcL_filter (enc := S) (g := S) (t := lameB ls) (fun b hb => by
    have := hcl b hb
    have eg := hget (b ++ [48])
    unfold kyT at eg
    walk_at "go"
    rw [eg, hbc]
    walk_at "go"
    rw [show decide ((((amF (b ++ [48]) ls).length : Nat) : Int) = 0) = lameB ls b by unfold lameB; exact decide_eq_decide.mpr (by omega)]
    rw [turnK2_b (y := S b) (fun _ => by walk_at "go")])]
  walk_at "go"
  have PA : ∀ w : Way, callN (k + 5) 7 [.tuple (ls.map S), S (wayT w)] = some (.ret (asW L ls w)) := fun w => p_asks (k := k + 1) (w := w) hL.tg hn (show ls.length ≤ 1000 by omega)
  rw [show ∀ f, lcL f [S [112, 108, 97, 105, 110], S [115, 107, 105, 112], S [109, 97, 114, 107, 115]] = lcL f ([Way.plain, .skip, .marks].map fun w => S (wayT w)) from fun _ => rfl, lcL_map (enc := fun w => S (wayT w)) (g := asW L ls) (fun w _ => by
    walk_at "go"
    rw [PA w]
    walk_at "go")]
  walk_at "go"
  have hdue : ([PyData.int (1 + 2 * ((C.length : Nat) : Int)), .int (1 + 2 * ((C.length : Nat) : Int) - (((List.filter (lameB ls) C).length : Nat) : Int))] ++ [PyData.int (if 2 * ((ls.length : Nat) : Int) - 1 > 1 then 2 * ((ls.length : Nat) : Int) - 1 else 1)]) = [asW L ls .plain, asW L ls .skip, asW L ls .marks] := by
    have e1 : 1 + 2 * ((C.length : Nat) : Int) = (((wF ls .plain L []).length : Nat) : Int) := by omega
    have e2 : 1 + 2 * ((C.length : Nat) : Int) - (((List.filter (lameB ls) C).length : Nat) : Int) = (((wF ls .skip L []).length : Nat) : Int) := by omega
    have e3 : (if 2 * ((ls.length : Nat) : Int) - 1 > 1 then 2 * ((ls.length : Nat) : Int) - 1 else 1) = (((wF ls .marks L []).length : Nat) : Int) := by split <;> omega
    rw [e2, e3, e1]
    rfl
  rw [hdue, show [asW L ls .plain, asW L ls .skip, asW L ls .marks] = [Way.plain, .skip, .marks].map (asW L ls) from rfl, asW_ok, show [Way.plain, .skip, .marks].map (asW L ls) = [asW L ls .plain, asW L ls .skip, asW L ls .marks] from rfl]
  walk_at "go"
  rw [gtW, ifK_n (by omega)]
  walk_at "go"
  rw [show cNe (.tuple (ls.map S)) (.tuple []) = some (!decide (ls = [])) by unfold cNe; rw [show (PyData.tuple []) = .tuple (([] : List Tag).map S) from rfl, cEq_tup hasc (fun t h => by cases h)]; rfl]
  have hms : andK (some (!decide (ls = []))) (Rl.tCmp cGt (rBin fIt (rVar 10) (rK (.int 2))) (rBin fIt (rVar 10) (rK (.int 1)))) [.v (scrD ns), .no, .no, .v (.int (L : Int)), .v (.tuple (ls.map S)), .od (cntK Bs), .no, .no, .v (.list (C.map S)), .v (.list ((List.filter (lameB ls) C).map S)), .v (.list [asW L ls .plain, asW L ls .skip, asW L ls .marks]), .no, .no, .no, .no, .no, .no, .no] = some false := by
    by_cases e : ls = []
    · rw [decide_eq_true e]
      rfl
    · rw [decide_eq_false e]
      have hp := marks_skip hL (List.length_pos_iff.mpr e)
      walk_at "go"
      rw [gtW, decide_eq_false (by omega)]
  rw [hms]
  walk_at "go"
  have ways := for_sameM (enc := fun w => S (wayT w)) (f := onPat (.nm 11) (l_law_4 (callN (k + 5)))) (ρ := st4 ns ls) (xs := [Way.plain, .skip, .marks]) (fun w _ => l4_turn (k := k) (ns := ns) hL hn (by omega) w)
  unfold st4 at ways
  rw [show ∀ f ρ, forL f [S [112, 108, 97, 105, 110], S [115, 107, 105, 112], S [109, 97, 114, 107, 115]] ρ = forL f ([Way.plain, .skip, .marks].map fun w => S (wayT w)) ρ from fun _ _ => rfl, ways]
  walk_at "go"
  rw [lcL_map (enc := S) (g := fun t => S (flT t)) (fun t ht => by
    have hT := hL.tg t ht
    have hT1 : t.length = L := hT.1
    walk_at "go"
    rw [lcL_map (enc := fun q => S [q]) (g := fun q => S [97 - q]) (fun q hq => by
      have hs := hT.2 q hq
      walk_at "go"
      rw [turn_sign hs]
      walk_at "go")]
    walk_at "go"
    rw [fl_join hT (by omega)]
    walk_at "go")]
  rw [show (ls.map fun t => S (flT t)) = (ls.map flT).map S by rw [List.map_map]; rfl]
  walk_at "go"
  rw [sorted_Sl (fun t ht => by
    obtain ⟨u, hu, rfl⟩ := List.mem_map.mp ht
    exact tag_asc (fl_tag (hL.tg u hu)))]
  walk_at "go"
  have hTL := turn_lot hL
  have hTl : (sortS (ls.map flT)).length ≤ 1000 := by rw [(sortS_perm _).length_eq, List.length_map]; omega
  obtain ⟨t1, t2⟩ := turn_ask hL
  have PO : ∀ w : Way, callN (k + 5) 7 [.tuple ((sortS (ls.map flT)).map S), S (wayT w)] = some (.ret (.int (((wF (sortS (ls.map flT)) w L []).length : Nat) : Int))) := fun w => p_asks (k := k + 1) (w := w) hTL.tg hn hTl
  rw [show S [112, 108, 97, 105, 110] = S (wayT .plain) from rfl, show S [109, 97, 114, 107, 115] = S (wayT .marks) from rfl, PO]
  walk_at "go"
  rw [PA]
  walk_at "go"
  unfold asW
  rw [neW t1]
  walk_at "go"
  rw [PO]
  walk_at "go"
  rw [PA]
  walk_at "go"
  unfold asW
  rw [neW t2]
  walk_at "go"
end
def lev : Nat := 40
theorem law_true (ns : List Int) (h : ns.length ≤ 63) : callN lev 15 [scrD ns] = some (.ret (.bool true)) := by
  show callN (34 + 5 + 1) 15 [scrD ns] = _
  rw [u_law]
  unfold b_law
  have e1 : forL (onPat (.nm 1) (l_law_1 (callN (34 + 5)))) (rangeD 0 (Int.toNat 16)) (slots0 ns) = some (.nx (slots0 ns)) := for_sameR (lo := 0) (n := 16) (fun i hi => l1_turn (k := 34) hi)
  unfold slots0 at e1
  walk_at "go"
  rw [e1]
  walk_at "go"
end K

namespace K
open PySem PySem.Spec PyProof.Rows L2 Dl Rl
def phi_law : List PyData → Out → Prop := fun ds o => ∃ ns : List Int, ds = [scrD ns] ∧ ns.length ≤ 63 ∧ o = .ret (.bool true)
theorem all_mk {P : Program} {w : World} {K : PySem.W.Frag} {h : Heap} {mg : Str → Option Value} {fa TE NT f0 f1 f2 f3 f4 f5 f6 f7 f8 f9 f10 f11 f12 f13 f14 f15 : Addr} (X : K.In h) (G : h.Ns mainGlobals mg) (hfa : mg "law" = some (.ref fa))
    {od0 an0 od1 an1 od2 an2 od3 an3 od4 an4 od5 an5 od6 an6 od7 an7 od8 an8 od9 an9 od10 an10 od11 an11 od12 an12 od13 an13 od14 an14 od15 an15 : Option Addr} {sl0 sl1 sl2 sl3 sl4 sl5 sl6 sl7 sl8 sl9 sl10 sl11 sl12 sl13 sl14 sl15 : Array (Option Value)} {oc0 kV0 dc0 pm0 cd0 ct0 oc1 kV1 dc1 pm1 cd1 ct1 oc2 kV2 dc2 pm2 cd2 ct2 oc3 kV3 dc3 pm3 cd3 ct3 oc4 kV4 dc4 pm4 cd4 ct4 oc5 kV5 dc5 pm5 cd5 ct5 oc6 kV6 dc6 pm6 cd6 ct6 oc7 kV7 dc7 pm7 cd7 ct7 oc8 kV8 dc8 pm8 cd8 ct8 oc9 kV9 dc9 pm9 cd9 ct9 oc10 kV10 dc10 pm10 cd10 ct10 oc11 kV11 dc11 pm11 cd11 ct11 oc12 kV12 dc12 pm12 cd12 ct12 oc13 kV13 dc13 pm13 cd13 ct13 oc14 kV14 dc14 pm14 cd14 ct14 oc15 kV15 dc15 pm15 cd15 ct15 : Value}
    (a0 : PySem.W.nsIn K mainGlobals "among" = some (some (.ref f0))) (l0 : K.lookup f0 = some ⟨oc0, od0, .func (PySem.W.fnOf "among" "among" (defArgs s_among) (defBody s_among) (defScope s_among) .none kV0 dc0 pm0 an0 cd0 ct0), sl0⟩) (c0 : PySem.W.codeIn K cd0 "among" = true) (k0 : PySem.W.keepIn K (.ref f0) = true)
    (a1 : PySem.W.nsIn K mainGlobals "blurred" = some (some (.ref f1))) (l1 : K.lookup f1 = some ⟨oc1, od1, .func (PySem.W.fnOf "blurred" "blurred" (defArgs s_blurred) (defBody s_blurred) (defScope s_blurred) .none kV1 dc1 pm1 an1 cd1 ct1), sl1⟩) (c1 : PySem.W.codeIn K cd1 "blurred" = true) (k1 : PySem.W.keepIn K (.ref f1) = true)
    (a2 : PySem.W.nsIn K mainGlobals "heard" = some (some (.ref f2))) (l2 : K.lookup f2 = some ⟨oc2, od2, .func (PySem.W.fnOf "heard" "heard" (defArgs s_heard) (defBody s_heard) (defScope s_heard) .none kV2 dc2 pm2 an2 cd2 ct2), sl2⟩) (c2 : PySem.W.codeIn K cd2 "heard" = true) (k2 : PySem.W.keepIn K (.ref f2) = true)
    (a3 : PySem.W.nsIn K mainGlobals "grown" = some (some (.ref f3))) (l3 : K.lookup f3 = some ⟨oc3, od3, .func (PySem.W.fnOf "grown" "grown" (defArgs s_grown) (defBody s_grown) (defScope s_grown) .none kV3 dc3 pm3 an3 cd3 ct3), sl3⟩) (c3 : PySem.W.codeIn K cd3 "grown" = true) (k3 : PySem.W.keepIn K (.ref f3) = true)
    (a4 : PySem.W.nsIn K mainGlobals "after" = some (some (.ref f4))) (l4 : K.lookup f4 = some ⟨oc4, od4, .func (PySem.W.fnOf "after" "after" (defArgs s_after) (defBody s_after) (defScope s_after) .none kV4 dc4 pm4 an4 cd4 ct4), sl4⟩) (c4 : PySem.W.codeIn K cd4 "after" = true) (k4 : PySem.W.keepIn K (.ref f4) = true)
    (a5 : PySem.W.nsIn K mainGlobals "walk" = some (some (.ref f5))) (l5 : K.lookup f5 = some ⟨oc5, od5, .func (PySem.W.fnOf "walk" "walk" (defArgs s_walk) (defBody s_walk) (defScope s_walk) .none kV5 dc5 pm5 an5 cd5 ct5), sl5⟩) (c5 : PySem.W.codeIn K cd5 "walk" = true) (k5 : PySem.W.keepIn K (.ref f5) = true)
    (a6 : PySem.W.nsIn K mainGlobals "told" = some (some (.ref f6))) (l6 : K.lookup f6 = some ⟨oc6, od6, .func (PySem.W.fnOf "told" "told" (defArgs s_told) (defBody s_told) (defScope s_told) .none kV6 dc6 pm6 an6 cd6 ct6), sl6⟩) (c6 : PySem.W.codeIn K cd6 "told" = true) (k6 : PySem.W.keepIn K (.ref f6) = true)
    (a7 : PySem.W.nsIn K mainGlobals "asks" = some (some (.ref f7))) (l7 : K.lookup f7 = some ⟨oc7, od7, .func (PySem.W.fnOf "asks" "asks" (defArgs s_asks) (defBody s_asks) (defScope s_asks) .none kV7 dc7 pm7 an7 cd7 ct7), sl7⟩) (c7 : PySem.W.codeIn K cd7 "asks" = true) (k7 : PySem.W.keepIn K (.ref f7) = true)
    (a8 : PySem.W.nsIn K mainGlobals "first_at" = some (some (.ref f8))) (l8 : K.lookup f8 = some ⟨oc8, od8, .func (PySem.W.fnOf "first_at" "first_at" (defArgs s_first_at) (defBody s_first_at) (defScope s_first_at) .none kV8 dc8 pm8 an8 cd8 ct8), sl8⟩) (c8 : PySem.W.codeIn K cd8 "first_at" = true) (k8 : PySem.W.keepIn K (.ref f8) = true)
    (a9 : PySem.W.nsIn K mainGlobals "_law_cell" = some (some (.ref f9))) (l9 : K.lookup f9 = some ⟨oc9, od9, .func (PySem.W.fnOf "_law_cell" "_law_cell" (defArgs s__law_cell) (defBody s__law_cell) (defScope s__law_cell) .none kV9 dc9 pm9 an9 cd9 ct9), sl9⟩) (c9 : PySem.W.codeIn K cd9 "_law_cell" = true) (k9 : PySem.W.keepIn K (.ref f9) = true)
    (a10 : PySem.W.nsIn K mainGlobals "_law_mix" = some (some (.ref f10))) (l10 : K.lookup f10 = some ⟨oc10, od10, .func (PySem.W.fnOf "_law_mix" "_law_mix" (defArgs s__law_mix) (defBody s__law_mix) (defScope s__law_mix) .none kV10 dc10 pm10 an10 cd10 ct10), sl10⟩) (c10 : PySem.W.codeIn K cd10 "_law_mix" = true) (k10 : PySem.W.keepIn K (.ref f10) = true)
    (a11 : PySem.W.nsIn K mainGlobals "_law_tag" = some (some (.ref f11))) (l11 : K.lookup f11 = some ⟨oc11, od11, .func (PySem.W.fnOf "_law_tag" "_law_tag" (defArgs s__law_tag) (defBody s__law_tag) (defScope s__law_tag) .none kV11 dc11 pm11 an11 cd11 ct11), sl11⟩) (c11 : PySem.W.codeIn K cd11 "_law_tag" = true) (k11 : PySem.W.keepIn K (.ref f11) = true)
    (a12 : PySem.W.nsIn K mainGlobals "_law_two" = some (some (.ref f12))) (l12 : K.lookup f12 = some ⟨oc12, od12, .func (PySem.W.fnOf "_law_two" "_law_two" (defArgs s__law_two) (defBody s__law_two) (defScope s__law_two) .none kV12 dc12 pm12 an12 cd12 ct12), sl12⟩) (c12 : PySem.W.codeIn K cd12 "_law_two" = true) (k12 : PySem.W.keepIn K (.ref f12) = true)
    (a13 : PySem.W.nsIn K mainGlobals "_law_long" = some (some (.ref f13))) (l13 : K.lookup f13 = some ⟨oc13, od13, .func (PySem.W.fnOf "_law_long" "_law_long" (defArgs s__law_long) (defBody s__law_long) (defScope s__law_long) .none kV13 dc13 pm13 an13 cd13 ct13), sl13⟩) (c13 : PySem.W.codeIn K cd13 "_law_long" = true) (k13 : PySem.W.keepIn K (.ref f13) = true)
    (a14 : PySem.W.nsIn K mainGlobals "_law_lot" = some (some (.ref f14))) (l14 : K.lookup f14 = some ⟨oc14, od14, .func (PySem.W.fnOf "_law_lot" "_law_lot" (defArgs s__law_lot) (defBody s__law_lot) (defScope s__law_lot) .none kV14 dc14 pm14 an14 cd14 ct14), sl14⟩) (c14 : PySem.W.codeIn K cd14 "_law_lot" = true) (k14 : PySem.W.keepIn K (.ref f14) = true)
    (a15 : PySem.W.nsIn K mainGlobals "law" = some (some (.ref f15))) (l15 : K.lookup f15 = some ⟨oc15, od15, .func (PySem.W.fnOf "law" "law" (defArgs s_law) (defBody s_law) (defScope s_law) .none kV15 dc15 pm15 an15 cd15 ct15), sl15⟩) (c15 : PySem.W.codeIn K cd15 "law" = true) (k15 : PySem.W.keepIn K (.ref f15) = true)
    (z0 : PySem.W.nsIn K mainGlobals "ValueError" = some none)
    (z1 : PySem.W.nsIn K mainGlobals "tuple" = some none)
    (z2 : PySem.W.nsIn K mainGlobals "len" = some none)
    (z3 : PySem.W.nsIn K mainGlobals "enumerate" = some none)
    (z4 : PySem.W.nsIn K mainGlobals "range" = some none)
    (z5 : PySem.W.nsIn K mainGlobals "min" = some none)
    (z6 : PySem.W.nsIn K mainGlobals "max" = some none)
    (z7 : PySem.W.nsIn K mainGlobals "sorted" = some none)
    (z8 : PySem.W.nsIn K mainGlobals "str" = some none)
    (z9 : PySem.W.nsIn K mainGlobals "set" = some none)
    (z10 : PySem.W.nsIn K mainGlobals "zip" = some none)
    (z11 : PySem.W.nsIn K mainGlobals "int" = some none)
    {tp0_1t0 : Tok}
    {tp0_1 : Addr} {tp0_1od : Option Addr} {tp0_1n : Nat} {tp0_1sl : Array (Option Value)} (tp0_1l : K.lookup tp0_1 = some ⟨.type "tuple", tp0_1od, .seq #[.str ⟨#[]⟩ tp0_1t0, .bool false] tp0_1n, tp0_1sl⟩)
    {tp0_0 : Addr} {tp0_0od : Option Addr} {tp0_0n : Nat} {tp0_0sl : Array (Option Value)} (tp0_0l : K.lookup tp0_0 = some ⟨.type "tuple", tp0_0od, .seq #[.ref tp0_1] tp0_0n, tp0_0sl⟩)
    (tz0 : PySem.W.nsIn K mainGlobals "FIRST" = some (some (.ref tp0_0)))
    (mTE : PySem.W.nsIn K mainGlobals "TagError" = some (some (.ref TE)))
    (hdTE : PySem.W.hasDictIn K TE = true) (htTE : PySem.W.typeIn K (.ref TE) = some (.type "type"))
    (mNT : PySem.W.nsIn K mainGlobals "NoTag" = some (some (.ref NT)))
    (sTE : PySem.W.subIn K (.ref TE) (.type "BaseException") = some true)
    (xeNT : PySem.W.excIn K NT bmV "ValueError.__new__" = true)
    (xkNT : PySem.W.keepIn K (.ref NT) = true)
    (xsNT : PySem.W.subIn K (.ref NT) (.type "BaseException") = some true)
    (xtNT : PySem.W.typeIn K (.ref NT) = some (.type "type"))
    (yeNT : PySem.W.subIn K (.ref NT) (.ref TE) = some true)
    : ∃ fd : FuncData, (∀ (s : Shared) (v : Value), BindsTo s fd ⟨[v], []⟩ [("script", v)]) ∧ ∀ base : Heap, K.In base → base.Ns mainGlobals mg → FnOk P w K mg base (L2N.CX P w) (lev + 1) fa fd ["script"] (spX K phi_law) := by
  have e := hfa.symm.trans (PySem.W.mg_of X G a15)
  cases e
  refine ⟨PySem.W.fnOf "law" "law" (defArgs s_law) (defBody s_law) (defScope s_law) .none kV15 dc15 pm15 an15 cd15 ct15, fun s v => .of_eq rfl, fun base _ _ => ?_⟩
  have g : Bl ⟨P, w, K, mg, base⟩ := ⟨PySem.W.mg_none_of X G z0, PySem.W.mg_none_of X G z1, PySem.W.mg_none_of X G z2, PySem.W.mg_none_of X G z3, PySem.W.mg_none_of X G z4, PySem.W.mg_none_of X G z5, PySem.W.mg_none_of X G z6, PySem.W.mg_none_of X G z7, PySem.W.mg_none_of X G z8, PySem.W.mg_none_of X G z9, PySem.W.mg_none_of X G z10, PySem.W.mg_none_of X G z11, ⟨_, PySem.W.mg_of X G tz0, fun B => Dq.tup (vs := [V.ref tp0_1]) (.inr ⟨_, _, _, tp0_0l, rfl, rfl, by show (1 : Nat) ≤ sizeLine; have := sizeLine_eq; omega, (.cons rfl .nil)⟩) (.cons (Dq.tup (vs := [V.str ⟨#[]⟩, V.bl false]) (.inr ⟨_, _, _, tp0_1l, rfl, rfl, by show (2 : Nat) ≤ sizeLine; have := sizeLine_eq; omega, (.cons ⟨_, rfl⟩ (.cons rfl .nil))⟩) (.cons (.str _) (.cons (.bl _) .nil))) .nil)⟩⟩
  have E : Ex ⟨P, w, K, mg, base⟩ TE (fun n => [NT, 0, 0, 0, 0, 0, 0].getD n 0) := ⟨PySem.W.mg_of X G mTE, PySem.W.mg_of X G mNT, ⟨PySem.W.mg_of X G mNT, xeNT, xkNT, xsNT, xtNT⟩, PySem.W.exm_ref sTE hdTE htTE yeNT⟩
  have F0 := fun_mk (st := s_among) l0 c0 k0
  have b0 := F0.binds (ps := ["lot", "beginning"]) fun _ _ _ _ _ _ us hl => match us, hl with | [_, _], _ => rfl
  have F1 := fun_mk (st := s_blurred) l1 c1 k1
  have b1 := F1.binds (ps := ["signs"]) fun _ _ _ _ _ _ us hl => match us, hl with | [_], _ => rfl
  have F2 := fun_mk (st := s_heard) l2 c2 k2
  have b2 := F2.binds (ps := ["lot", "beginning"]) fun _ _ _ _ _ _ us hl => match us, hl with | [_, _], _ => rfl
  have F3 := fun_mk (st := s_grown) l3 c3 k3
  have b3 := F3.binds (ps := ["beginning"]) fun _ _ _ _ _ _ us hl => match us, hl with | [_], _ => rfl
  have F4 := fun_mk (st := s_after) l4 c4 k4
  have b4 := F4.binds (ps := ["entry", "sound", "rest", "way", "long"]) fun _ _ _ _ _ _ us hl => match us, hl with | [_, _, _, _, _], _ => rfl
  have F5 := fun_mk (st := s_walk) l5 c5 k5
  have b5 := F5.binds (ps := ["lot", "way"]) fun _ _ _ _ _ _ us hl => match us, hl with | [_, _], _ => rfl
  have F6 := fun_mk (st := s_told) l6 c6 k6
  have b6 := F6.binds (ps := ["rows"]) fun _ _ _ _ _ _ us hl => match us, hl with | [_], _ => rfl
  have F7 := fun_mk (st := s_asks) l7 c7 k7
  have b7 := F7.binds (ps := ["lot", "way"]) fun _ _ _ _ _ _ us hl => match us, hl with | [_, _], _ => rfl
  have F8 := fun_mk (st := s_first_at) l8 c8 k8
  have b8 := F8.binds (ps := ["lot", "way", "tag"]) fun _ _ _ _ _ _ us hl => match us, hl with | [_, _, _], _ => rfl
  have F9 := fun_mk (st := s__law_cell) l9 c9 k9
  have b9 := F9.binds (ps := ["script", "k"]) fun _ _ _ _ _ _ us hl => match us, hl with | [_, _], _ => rfl
  have F10 := fun_mk (st := s__law_mix) l10 c10 k10
  have b10 := F10.binds (ps := ["cell", "prime", "many"]) fun _ _ _ _ _ _ us hl => match us, hl with | [_, _, _], _ => rfl
  have F11 := fun_mk (st := s__law_tag) l11 c11 k11
  have b11 := F11.binds (ps := ["place", "long"]) fun _ _ _ _ _ _ us hl => match us, hl with | [_, _], _ => rfl
  have F12 := fun_mk (st := s__law_two) l12 c12 k12
  have b12 := F12.binds (ps := ["long"]) fun _ _ _ _ _ _ us hl => match us, hl with | [_], _ => rfl
  have F13 := fun_mk (st := s__law_long) l13 c13 k13
  have b13 := F13.binds (ps := ["cell"]) fun _ _ _ _ _ _ us hl => match us, hl with | [_], _ => rfl
  have F14 := fun_mk (st := s__law_lot) l14 c14 k14
  have b14 := F14.binds (ps := ["cell", "long", "most"]) fun _ _ _ _ _ _ us hl => match us, hl with | [_, _, _], _ => rfl
  have A : ∀ n : Nat, ∀ f x, nm f = some x → Fok ⟨P, w, K, mg, base⟩ (n + 1) x (phiC (callN n) (fun n => ([NT, 0, 0, 0, 0, 0, 0] : List Addr).getD n 0) f) := by
    intro n
    induction n with
    | zero =>
      intro f x h
      unfold nm at h
      split at h
      · cases h; exact (def_no F0 (PySem.W.mg_of X G a0) b0 sc_among (fun _ => rfl))
      · cases h; exact (def_no F1 (PySem.W.mg_of X G a1) b1 sc_blurred (fun _ => rfl))
      · cases h; exact (def_no F2 (PySem.W.mg_of X G a2) b2 sc_heard (fun _ => rfl))
      · cases h; exact (def_no F3 (PySem.W.mg_of X G a3) b3 sc_grown (fun _ => rfl))
      · cases h; exact (def_no F4 (PySem.W.mg_of X G a4) b4 sc_after (fun _ => rfl))
      · cases h; exact (def_no F5 (PySem.W.mg_of X G a5) b5 sc_walk (fun _ => rfl))
      · cases h; exact (def_no F6 (PySem.W.mg_of X G a6) b6 sc_told (fun _ => rfl))
      · cases h; exact (def_no F7 (PySem.W.mg_of X G a7) b7 sc_asks (fun _ => rfl))
      · cases h; exact (def_no F8 (PySem.W.mg_of X G a8) b8 sc_first_at (fun _ => rfl))
      · cases h; exact (def_no F9 (PySem.W.mg_of X G a9) b9 sc__law_cell (fun _ => rfl))
      · cases h; exact (def_no F10 (PySem.W.mg_of X G a10) b10 sc__law_mix (fun _ => rfl))
      · cases h; exact (def_no F11 (PySem.W.mg_of X G a11) b11 sc__law_tag (fun _ => rfl))
      · cases h; exact (def_no F12 (PySem.W.mg_of X G a12) b12 sc__law_two (fun _ => rfl))
      · cases h; exact (def_no F13 (PySem.W.mg_of X G a13) b13 sc__law_long (fun _ => rfl))
      · cases h; exact (def_no F14 (PySem.W.mg_of X G a14) b14 sc__law_lot (fun _ => rfl))
      · cases h
    | succ n ih =>
      have ih' := ih
      intro f x h
      unfold nm at h
      split at h
      · cases h; exact def_ok F0 (PySem.W.mg_of X G a0) b0 sc_among rfl rfl (r_among g E ih' (Nat.le_refl _)) (fun _ => rfl)
      · cases h; exact def_ok F1 (PySem.W.mg_of X G a1) b1 sc_blurred rfl rfl (r_blurred g E ih' (Nat.le_refl _)) (fun _ => rfl)
      · cases h; exact def_ok F2 (PySem.W.mg_of X G a2) b2 sc_heard rfl rfl (r_heard g E ih' (Nat.le_refl _)) (fun _ => rfl)
      · cases h; exact def_ok F3 (PySem.W.mg_of X G a3) b3 sc_grown rfl rfl (r_grown g E ih' (Nat.le_refl _)) (fun _ => rfl)
      · cases h; exact def_ok F4 (PySem.W.mg_of X G a4) b4 sc_after rfl rfl (r_after g E ih' (Nat.le_refl _)) (fun _ => rfl)
      · cases h; exact def_ok F5 (PySem.W.mg_of X G a5) b5 sc_walk rfl rfl (r_walk g E ih' (Nat.le_refl _)) (fun _ => rfl)
      · cases h; exact def_ok F6 (PySem.W.mg_of X G a6) b6 sc_told rfl rfl (r_told g E ih' (Nat.le_refl _)) (fun _ => rfl)
      · cases h; exact def_ok F7 (PySem.W.mg_of X G a7) b7 sc_asks rfl rfl (r_asks g E ih' (Nat.le_refl _)) (fun _ => rfl)
      · cases h; exact def_ok F8 (PySem.W.mg_of X G a8) b8 sc_first_at rfl rfl (r_first_at g E ih' (Nat.le_refl _)) (fun _ => rfl)
      · cases h; exact def_ok F9 (PySem.W.mg_of X G a9) b9 sc__law_cell rfl rfl (r__law_cell g E ih' (Nat.le_refl _)) (fun _ => rfl)
      · cases h; exact def_ok F10 (PySem.W.mg_of X G a10) b10 sc__law_mix rfl rfl (r__law_mix g E ih' (Nat.le_refl _)) (fun _ => rfl)
      · cases h; exact def_ok F11 (PySem.W.mg_of X G a11) b11 sc__law_tag rfl rfl (r__law_tag g E ih' (Nat.le_refl _)) (fun _ => rfl)
      · cases h; exact def_ok F12 (PySem.W.mg_of X G a12) b12 sc__law_two rfl rfl (r__law_two g E ih' (Nat.le_refl _)) (fun _ => rfl)
      · cases h; exact def_ok F13 (PySem.W.mg_of X G a13) b13 sc__law_long rfl rfl (r__law_long g E ih' (Nat.le_refl _)) (fun _ => rfl)
      · cases h; exact def_ok F14 (PySem.W.mg_of X G a14) b14 sc__law_lot rfl rfl (r__law_lot g E ih' (Nat.le_refl _)) (fun _ => rfl)
      · cases h
  exact law_ok (call := callN lev) (fn := 15) (fun_mk (st := s_law) l15 c15 k15) sc_law rfl rfl (r_law (M := ⟨P, w, K, mg, base⟩) g E (A (lev - 1)) (Nat.le_refl _)) (fun _ => rfl) (fun ds o hp => by obtain ⟨ns, h1, h2, h3⟩ := hp; subst h1; exact ⟨.ret (.bool true), law_true ns h2, h3⟩)
end K
open PySem PySem.W PyProof.Rows
set_option maxRecDepth 100000 in
set_option maxHeartbeats 0 in
theorem PySem.Challenge.cw_tagasks_k04_whole_walks_holds : PySem.Challenge.rw_tagasks_k04_whole_walks.Holds := by
  w_on; o_law; k_head; (case hw => w_witness2)
  k_fill
  refine L2.walk_of (l := PySem.Challenge.rw_tagasks_k04_whole_walks) (n := 63) (k := K.lev + 1) (x := "script") (CX := fun w => L2N.CX (PySem.Challenge.rw_tagasks_k04_whole_walks).prog w) (sp := fun w => Dl.spX _ K.phi_law) rfl (by decide) rfl ⟨rfl, by decide, by decide⟩ (fun w h Y => PySem.W.kIn_of Y) ?F (fun _ _ a ns hl _ hS => Dl.sp_script hS ⟨_, rfl, hl, rfl⟩) (fun _ _ _ _ _ h => Dl.cx_no h)
  case F =>
    intro w mg fa h KX G hmg
    refine' K.all_mk KX G hmg ?a0 ?l0 ?c0 ?k0 ?a1 ?l1 ?c1 ?k1 ?a2 ?l2 ?c2 ?k2 ?a3 ?l3 ?c3 ?k3 ?a4 ?l4 ?c4 ?k4 ?a5 ?l5 ?c5 ?k5 ?a6 ?l6 ?c6 ?k6 ?a7 ?l7 ?c7 ?k7 ?a8 ?l8 ?c8 ?k8 ?a9 ?l9 ?c9 ?k9 ?a10 ?l10 ?c10 ?k10 ?a11 ?l11 ?c11 ?k11 ?a12 ?l12 ?c12 ?k12 ?a13 ?l13 ?c13 ?k13 ?a14 ?l14 ?c14 ?k14 ?a15 ?l15 ?c15 ?k15 ?z0 ?z1 ?z2 ?z3 ?z4 ?z5 ?z6 ?z7 ?z8 ?z9 ?z10 ?z11 ?tp0_1l ?tp0_0l ?tz0 ?mTE ?hdTE ?htTE ?mNT ?sTE ?xeNT ?xkNT ?xsNT ?xtNT ?yeNT
    (case a0 => k_is); (case l0 => k_is); (case c0 => k_is); (case k0 => k_is); (case a1 => k_is); (case l1 => k_is); (case c1 => k_is); (case k1 => k_is); (case a2 => k_is); (case l2 => k_is); (case c2 => k_is); (case k2 => k_is); (case a3 => k_is); (case l3 => k_is); (case c3 => k_is); (case k3 => k_is); (case a4 => k_is); (case l4 => k_is); (case c4 => k_is); (case k4 => k_is); (case a5 => k_is); (case l5 => k_is); (case c5 => k_is); (case k5 => k_is); (case a6 => k_is); (case l6 => k_is); (case c6 => k_is); (case k6 => k_is); (case a7 => k_is); (case l7 => k_is); (case c7 => k_is); (case k7 => k_is); (case a8 => k_is); (case l8 => k_is); (case c8 => k_is); (case k8 => k_is); (case a9 => k_is); (case l9 => k_is); (case c9 => k_is); (case k9 => k_is); (case a10 => k_is); (case l10 => k_is); (case c10 => k_is); (case k10 => k_is); (case a11 => k_is); (case l11 => k_is); (case c11 => k_is); (case k11 => k_is); (case a12 => k_is); (case l12 => k_is); (case c12 => k_is); (case k12 => k_is); (case a13 => k_is); (case l13 => k_is); (case c13 => k_is); (case k13 => k_is); (case a14 => k_is); (case l14 => k_is); (case c14 => k_is); (case k14 => k_is); (case a15 => k_is); (case l15 => k_is); (case c15 => k_is); (case k15 => k_is); (case z0 => k_is); (case z1 => k_is); (case z2 => k_is); (case z3 => k_is); (case z4 => k_is); (case z5 => k_is); (case z6 => k_is); (case z7 => k_is); (case z8 => k_is); (case z9 => k_is); (case z10 => k_is); (case z11 => k_is); (case tz0 => k_is); (case mTE => k_is); (case hdTE => k_is); (case htTE => k_is); (case mNT => k_is); (case sTE => k_is); (case xeNT => k_exc); (case xkNT => k_is); (case xsNT => k_is); (case xtNT => k_is); (case yeNT => k_is); (case tp0_0l => k_is); (case tp0_1l => k_is)
