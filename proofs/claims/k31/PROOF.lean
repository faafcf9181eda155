import PyProof.Rows.All
import Wide.All
import OpenK.AllK
import Wide.FinOn
import HandS.ForMost
import HandS.ForExc
import HandS.CallSlots
import HandS.Flow
import HandS.TupAny
import HandS.SuiteRaise
import HandS.IsInst
import HandS.StrMore
import HandS.SortOrd
import HandS.Defaults
import HandS.Head0
import HandS.Head1
import HandS.Head2
import HandS.HeadEnd
import HandS.HeadHook1
import HandS.HeadHook2
import HandS.TupMul
import KE.KxIndex
import KE.SortData
import HandS.ExcIs
import HandS.TryOnly
import HandS.ExcInitHot
import HandS.ExcField
import KE.KExcIs
import HandS.RaiseFrom
import KE.KIntText
import KE.KStrOpen
import PyProof.StrLawsChain
import PyProof.StrLawsTight
import PyProof.Rows.StrItems
import HandS.SetKeys
import HandS.WordsDict
import PySem.Challenge.RW_namewell_k31_the_zones_of_a_house
set_option Elab.async false
set_option linter.all false
set_option maxRecDepth 100000
section
set_option maxHeartbeats 4000000
namespace NW
open PySem PySem.Spec PyProof.Rows L2

abbrev Dat := PyData

mutual
inductive Rep (K : PySem.W.Frag) (G : Hp) : V → Dat → Prop
  | non : Rep K G .non .none
  | bl (b : Bool) : Rep K G (.bl b) (.bool b)
  | int (i : Int) : Rep K G (.int i) (.int i)
  | str (x : Str) : Rep K G (.str x) (.str x)
  | lst {a : Addr} {xs : List V} {ds : List Dat} : SqL K G a xs → Reps K G xs ds → Rep K G (.ref a) (.list ds)
  | tup {a : Addr} {xs : List V} {ds : List Dat} : SqT K G a xs → Reps K G xs ds → Rep K G (.ref a) (.tuple ds)
  | dct {a : Addr} {kvs : List (Key × V)} {ds : List (Dat × Dat)} : Rd G a (.dK kvs) → Repd K G kvs ds → Rep K G (.ref a) (.dict ds)
inductive Reps (K : PySem.W.Frag) (G : Hp) : List V → List Dat → Prop
  | nil : Reps K G [] []
  | cons {v : V} {vs : List V} {d : Dat} {ds : List Dat} : Rep K G v d → Reps K G vs ds → Reps K G (v :: vs) (d :: ds)
inductive Repd (K : PySem.W.Frag) (G : Hp) : List (Key × V) → List (Dat × Dat) → Prop
  | nil : Repd K G [] []
  | int {i : Int} {v : V} {vs : List (Key × V)} {d : Dat} {ds : List (Dat × Dat)} : Rep K G v d → Repd K G vs ds → Repd K G ((.inl i, v) :: vs) ((.int i, d) :: ds)
  | str {x : Str} {v : V} {vs : List (Key × V)} {d : Dat} {ds : List (Dat × Dat)} : Rep K G v d → Repd K G vs ds → Repd K G ((.inr x, v) :: vs) ((.str x, d) :: ds)
end

/-! ### what stays -/
section
variable {K : PySem.W.Frag} {G G' : Hp}
theorem rd_keep (h : Same G G') {a : Addr} {o : HO} : Rd G a o → Rd G' a o
  | .inl q => .inl (h _ _ q)
  | .inr ⟨z, q⟩ => .inr ⟨z, h _ _ q⟩
theorem sqL_keep (h : Same G G') {a : Addr} {xs : List V} : SqL K G a xs → SqL K G' a xs
  | .inl q => .inl (rd_keep h q)
  | .inr q => .inr q
theorem sqT_keep (h : Same G G') {a : Addr} {xs : List V} : SqT K G a xs → SqT K G' a xs
  | .inl q => .inl (rd_keep h q)
  | .inr q => .inr q
mutual
theorem Rep.keep (h : Same G G') : ∀ (d : Dat) (v : V), Rep K G v d → Rep K G' v d
  | .none, _, r => by cases r; exact .non
  | .bool b, _, r => by cases r; exact .bl b
  | .int i, _, r => by cases r; exact .int i
  | .str x, _, r => by cases r; exact .str x
  | .list ds, _, r => by cases r with | lst q r => exact .lst (sqL_keep h q) (Reps.keep h ds _ r)
  | .tuple ds, _, r => by cases r with | tup q r => exact .tup (sqT_keep h q) (Reps.keep h ds _ r)
  | .dict ds, _, r => by cases r with | dct q r => exact .dct (rd_keep h q) (Repd.keep h ds _ r)
theorem Reps.keep (h : Same G G') : ∀ (ds : List Dat) (vs : List V), Reps K G vs ds → Reps K G' vs ds
  | [], _, r => by cases r; exact .nil
  | d :: ds, _, r => by cases r with | cons r t => exact .cons (Rep.keep h d _ r) (Reps.keep h ds _ t)
theorem Repd.keep (h : Same G G') : ∀ (ds : List (Dat × Dat)) (vs : List (Key × V)), Repd K G vs ds → Repd K G' vs ds
  | [], _, r => by cases r; exact .nil
  | (_, d) :: ds, _, r => by
    cases r with
    | int r t => exact .int (Rep.keep h d _ r) (Repd.keep h ds _ t)
    | str r t => exact .str (Rep.keep h d _ r) (Repd.keep h ds _ t)
end
theorem Rep.mono (h : Same G G') {d : Dat} {v : V} (r : Rep K G v d) : Rep K G' v d := Rep.keep h d v r
theorem Reps.mono (h : Same G G') {d : List Dat} {v : List V} (r : Reps K G v d) : Reps K G' v d := Reps.keep h d v r
theorem Repd.mono (h : Same G G') {d : List (Dat × Dat)} {v : List (Key × V)} (r : Repd K G v d) : Repd K G' v d := Repd.keep h d v r
theorem Reps.length {vs : List V} {ds : List Dat} (r : Reps K G vs ds) : vs.length = ds.length := by
  induction ds generalizing vs with
  | nil => cases r; rfl
  | cons d ds ih => cases r with | cons _ t => simp [ih t]
theorem Reps.get {vs : List V} {ds : List Dat} (r : Reps K G vs ds) : ∀ {i : Nat} {d : Dat}, ds[i]? = some d → ∃ v, vs[i]? = some v ∧ Rep K G v d := by
  induction ds generalizing vs with
  | nil => intro i d e; simp at e
  | cons d ds ih =>
    cases r with
    | cons r t =>
      intro i z e
      cases i with
      | zero => simp at e; subst e; exact ⟨_, rfl, r⟩
      | succ i => simp at e; obtain ⟨v, h1, h2⟩ := ih t e; exact ⟨v, by simpa using h1, h2⟩
theorem Reps.getV {vs : List V} {ds : List Dat} (r : Reps K G vs ds) {i : Nat} {v : V} (e : vs[i]? = some v) : ∃ d, ds[i]? = some d ∧ Rep K G v d := by
  have hi := (List.getElem?_eq_some_iff.mp e).1
  have hd : i < ds.length := by rw [← r.length]; exact hi
  obtain ⟨w, h1, h2⟩ := r.get (i := i) (d := ds[i]) (by simp [hd])
  rw [e] at h1; cases h1
  exact ⟨ds[i], by simp [hd], h2⟩
theorem Reps.append {vs ws : List V} {ds es : List Dat} (r : Reps K G vs ds) (q : Reps K G ws es) : Reps K G (vs ++ ws) (ds ++ es) := by
  induction ds generalizing vs with
  | nil => cases r; exact q
  | cons d ds ih => cases r with | cons r t => exact .cons r (ih t)
theorem Reps.take {vs : List V} {ds : List Dat} (r : Reps K G vs ds) (n : Nat) : Reps K G (vs.take n) (ds.take n) := by
  induction n generalizing vs ds with
  | zero => exact .nil
  | succ n ih =>
    cases ds with
    | nil => cases r; exact .nil
    | cons d ds => cases r with | cons r t => exact .cons r (ih t)
theorem Reps.drop {vs : List V} {ds : List Dat} (r : Reps K G vs ds) (n : Nat) : Reps K G (vs.drop n) (ds.drop n) := by
  induction n generalizing vs ds with
  | zero => exact r
  | succ n ih =>
    cases ds with
    | nil => cases r; exact .nil
    | cons d ds => cases r with | cons r t => exact ih t
theorem Reps.reverse {vs : List V} {ds : List Dat} (r : Reps K G vs ds) : Reps K G vs.reverse ds.reverse := by
  induction ds generalizing vs with
  | nil => cases r; exact .nil
  | cons d ds ih => cases r with | cons r t => rw [List.reverse_cons, List.reverse_cons]; exact (ih t).append (.cons r .nil)
theorem Reps.set {vs : List V} {ds : List Dat} (r : Reps K G vs ds) {v : V} {d : Dat} (q : Rep K G v d) (i : Nat) : Reps K G (vs.set i v) (ds.set i d) := by
  induction ds generalizing vs i with
  | nil => cases r; exact .nil
  | cons e ds ih =>
    cases r with
    | cons r t =>
      cases i with
      | zero => exact .cons q t
      | succ i => exact .cons r (ih t i)
theorem Reps.dropLast {vs : List V} {ds : List Dat} (r : Reps K G vs ds) : Reps K G vs.dropLast ds.dropLast := by
  rw [List.dropLast_eq_take, List.dropLast_eq_take, r.length]; exact r.take _
theorem Reps.ints (ns : List Int) : Reps K G (ns.map V.int) (ns.map PyData.int) := by
  induction ns with
  | nil => exact .nil
  | cons n ns ih => exact .cons (.int n) ih
theorem Reps.strs (ns : List Str) : Reps K G (ns.map V.str) (ns.map PyData.str) := by
  induction ns with
  | nil => exact .nil
  | cons n ns ih => exact .cons (.str n) ih
theorem Reps.strs_inv {vs : List V} {xs : List Str} (r : Reps K G vs (xs.map PyData.str)) : vs = xs.map V.str := by
  induction xs generalizing vs with
  | nil => cases r; rfl
  | cons x xs ih => cases r with | cons r t => cases r; rw [ih t]; rfl
theorem Reps.ints_inv {vs : List V} {xs : List Int} (r : Reps K G vs (xs.map PyData.int)) : vs = xs.map V.int := by
  induction xs generalizing vs with
  | nil => cases r; rfl
  | cons x xs ih => cases r with | cons r t => cases r; rw [ih t]; rfl
theorem Reps.bls_inv {vs : List V} {xs : List Bool} (r : Reps K G vs (xs.map PyData.bool)) : vs = xs.map V.bl := by
  induction xs generalizing vs with
  | nil => cases r; rfl
  | cons x xs ih => cases r with | cons r t => cases r; rw [ih t]; rfl
end

/-! ### the state goes on: H is added to, the still part G too, never by what stood in H -/
structure Ext (H G H' G' : Hp) : Prop where
  all : Same H H'
  stl : Same G G'
  sub : Same G' H'
  new : ∀ a, G' a ≠ none → G a ≠ none ∨ H a = none
theorem Ext.refl {H G : Hp} (h : Same G H) : Ext H G H G := ⟨Same.refl H, Same.refl G, h, fun _ q => .inl q⟩
theorem Ext.trans {H G H1 G1 H2 G2 : Hp} (a : Ext H G H1 G1) (b : Ext H1 G1 H2 G2) : Ext H G H2 G2 :=
  ⟨a.all.trans b.all, a.stl.trans b.stl, b.sub, fun c q => by
    rcases b.new c q with z | z
    · exact a.new c z
    · exact .inr (a.all.free z)⟩
/-- a new object, still from the start -/
theorem Ext.made {H G : Hp} (h : Same G H) {p : Addr} (np : H p = none) (o : HO) : Ext H G (upd H p o) (upd G p o) := by
  have ng : G p = none := h.free np
  refine ⟨fun b u e => ?_, fun b u e => ?_, fun b u e => ?_, fun a q => ?_⟩
  · rw [upd_ne (ne_of_none e np)]; exact e
  · rw [upd_ne (ne_of_none e ng)]; exact e
  · by_cases hb : b = p
    · subst hb; rw [upd_same] at e ⊢; exact e
    · rw [upd_ne hb] at e ⊢; exact h _ _ e
  · by_cases hb : a = p
    · subst hb; exact .inr np
    · rw [upd_ne hb] at q; exact .inl q
/-- a new object that isn't still -/
theorem Ext.laid {H G : Hp} (h : Same G H) {p : Addr} (np : H p = none) (o : HO) : Ext H G (upd H p o) G := by
  refine ⟨fun b u e => ?_, Same.refl G, fun b u e => ?_, fun a q => .inl q⟩
  · rw [upd_ne (ne_of_none e np)]; exact e
  · rw [upd_ne (ne_of_none (h _ _ e) np)]; exact h _ _ e

/-! ### == and != of data -/
section
variable {X : Cx} {pins : List (Addr × Obj)} {σ : L2.St} {H G : Hp} {s : Shared}
theorem rep_list (I : Inv X pins σ H s) (hs : Same G H) {v : V} {u : Value} {ds : List Dat} (r : Rep X.K G v (.list ds)) (ru : RelV v u) :
    ∃ a vs us, v = .ref a ∧ u = .ref a ∧ SqL X.K H a vs ∧ Reps X.K G vs ds ∧ Vals vs us ∧ s.heap.IsList a us.toArray := by
  cases r with
  | lst q r =>
    cases ru
    obtain ⟨us, rv, p, _⟩ := I.list (sqL_keep hs q)
    exact ⟨_, _, us, rfl, rfl, sqL_keep hs q, r, rv, p.isList⟩
theorem rep_tuple (I : Inv X pins σ H s) (hs : Same G H) {v : V} {u : Value} {ds : List Dat} (r : Rep X.K G v (.tuple ds)) (ru : RelV v u) :
    ∃ a vs us, v = .ref a ∧ u = .ref a ∧ SqT X.K H a vs ∧ Reps X.K G vs ds ∧ Vals vs us ∧ s.heap.IsTuple a us.toArray := by
  cases r with
  | tup q r =>
    cases ru
    obtain ⟨us, rv, p, _⟩ := I.tuple (sqT_keep hs q)
    exact ⟨_, _, us, rfl, rfl, sqT_keep hs q, r, rv, p⟩
mutual
/-- no dict within -/
def ndc : Dat → Bool
  | .dict _ => false
  | .list ds => ndcs ds
  | .tuple ds => ndcs ds
  | _ => true
def ndcs : List Dat → Bool
  | [] => true
  | d :: ds => ndc d && ndcs ds
end
/-- places of two lists told to be alike -/
def alike (ds es : List Dat) (j : Nat) : Bool := match ds[j]?, es[j]? with
  | some d, some e => PyData.eqv d e
  | _, _ => false
theorem alike_all : ∀ (ds es : List Dat), ds.length = es.length → (List.range ds.length).all (alike ds es) = PyData.eqvAll ds es
  | [], [], _ => rfl
  | [], _ :: _, h => by simp at h
  | _ :: _, [], h => by simp at h
  | d :: ds, e :: es, h => by
    have ih := alike_all ds es (by simpa using h)
    rw [List.length_cons, List.range_succ_eq_map, List.all_cons, List.all_map]
    show (PyData.eqv d e && (List.range ds.length).all (alike (d :: ds) (e :: es) ∘ Nat.succ)) = (PyData.eqv d e && PyData.eqvAll ds es)
    rw [← ih]
    rfl
theorem eqvAll_len : ∀ (ds es : List Dat), ds.length ≠ es.length → PyData.eqvAll ds es = false
  | [], [], h => absurd rfl h
  | [], _ :: _, _ => rfl
  | _ :: _, [], _ => rfl
  | d :: ds, e :: es, h => by
    show (PyData.eqv d e && PyData.eqvAll ds es) = false
    rw [eqvAll_len ds es (by simpa using h), Bool.and_false]
theorem alike_tup (ds es : List Dat) : ((List.range (min ds.length es.length)).all (alike ds es) && ds.length == es.length) = PyData.eqvAll ds es := by
  by_cases h : ds.length = es.length
  · rw [← alike_all ds es h, h, Nat.min_self]; simp
  · rw [eqvAll_len ds es h]; simp [h]
mutual
theorem eqv_refl : ∀ d : Dat, ndc d = true → PyData.eqv d d = true
  | .none, _ => rfl
  | .bool b, _ => by simp [PyData.eqv]
  | .int b, _ => by simp [PyData.eqv]
  | .str b, _ => by simp [PyData.eqv]
  | .list ds, h => by simp only [PyData.eqv]; exact eqvs_refl ds (by simpa [ndc] using h)
  | .tuple ds, h => by simp only [PyData.eqv]; exact eqvs_refl ds (by simpa [ndc] using h)
  | .dict _, h => by simp [ndc] at h
theorem eqvs_refl : ∀ d : List Dat, ndcs d = true → PyData.eqvAll d d = true
  | [], _ => rfl
  | d :: ds, h => by
    have h' : ndc d = true ∧ ndcs ds = true := by simpa [ndcs] using h
    simp only [PyData.eqvAll, eqv_refl d h'.1, eqvs_refl ds h'.2, Bool.and_self]
end
mutual
/-- one value stands for one thing -/
theorem Rep.inj (I : Inv X pins σ H s) (hs : Same G H) : ∀ (d e : Dat) (v : V), Rep X.K G v d → Rep X.K G v e → ndc d = true → ndc e = true → d = e
  | .none, _, _, r, q, _, _ => by cases r; cases q; rfl
  | .bool b, _, _, r, q, _, _ => by cases r; cases q; rfl
  | .int b, _, _, r, q, _, _ => by cases r; cases q; rfl
  | .str b, _, _, r, q, _, _ => by cases r; cases q; rfl
  | .list ds, e, _, r, q, hd, he => by
    cases r with
    | lst x1 r =>
      cases q with
      | lst x2 q =>
        have z := I.list_inj (sqL_keep hs x1) (sqL_keep hs x2)
        subst z
        rw [Reps.inj I hs ds _ _ r q (by simpa [ndc] using hd) (by simpa [ndc] using he)]
      | tup x2 q =>
        obtain ⟨us, _, p, _⟩ := I.list (sqL_keep hs x1)
        obtain ⟨ws, _, p2, _⟩ := I.tuple (sqT_keep hs x2)
        exact absurd rfl (SeqAt.ne_of_list_tuple p.isList p2)
      | dct x2 q => simp [ndc] at he
  | .tuple ds, e, _, r, q, hd, he => by
    cases r with
    | tup x1 r =>
      cases q with
      | tup x2 q =>
        have z := I.tuple_inj (sqT_keep hs x1) (sqT_keep hs x2)
        subst z
        rw [Reps.inj I hs ds _ _ r q (by simpa [ndc] using hd) (by simpa [ndc] using he)]
      | lst x2 q =>
        obtain ⟨us, _, p, _⟩ := I.list (sqL_keep hs x2)
        obtain ⟨ws, _, p2, _⟩ := I.tuple (sqT_keep hs x1)
        exact absurd rfl (SeqAt.ne_of_list_tuple p.isList p2)
      | dct x2 q => simp [ndc] at he
  | .dict _, _, _, _, _, h, _ => by simp [ndc] at h
theorem Reps.inj (I : Inv X pins σ H s) (hs : Same G H) : ∀ (ds es : List Dat) (vs : List V), Reps X.K G vs ds → Reps X.K G vs es → ndcs ds = true → ndcs es = true → ds = es
  | [], _, _, r, q, _, _ => by cases r; cases q; rfl
  | d :: ds, _, _, r, q, hd, he => by
    cases r with
    | cons r t =>
      cases q with
      | cons q t' =>
        have h1 : ndc d = true ∧ ndcs ds = true := by simpa [ndcs] using hd
        simp only [ndcs, Bool.and_eq_true] at he
        rw [Rep.inj I hs d _ _ r q h1.1 he.1, Reps.inj I hs ds _ _ t t' h1.2 he.2]
end
theorem in1_units (A : Around) : A.in1.units = A.units + 1 := rfl
mutual
theorem eqAt_rep (I : Inv X pins σ H s) (hs : Same G H) : ∀ (d e : Dat) (v w : V) (u x : Value) (A : Around), Rep X.K G v d → Rep X.K G w e → RelV v u → RelV w x → ndc d = true → ndc e = true → A.units + PyData.depth d < cLine →
    SeqAt.EqAt A s u x (PyData.eqv d e)
  | .none, e, _, w, _, x, A, r, q, ru, rx, _, he, hu => by
    cases r; cases ru
    cases q with
    | non => cases rx; exact SeqAt.EqAt.same _
    | bl b => cases rx; exact SeqAt.EqAt.none_bool b
    | int b => obtain ⟨t, rfl⟩ := rx; exact SeqAt.EqAt.none_int b t
    | str b => obtain ⟨t, rfl⟩ := rx; exact SeqAt.EqAt.none_str b t
    | lst q1 q2 => obtain ⟨_, _, _, e1, rfl, _, _, _, p⟩ := rep_list I hs (.lst q1 q2) rx; exact SeqAt.EqAt.none_list p (Nat.lt_of_le_of_lt (Nat.le_add_right _ _) hu)
    | tup q1 q2 => obtain ⟨_, _, _, e1, rfl, _, _, _, p⟩ := rep_tuple I hs (.tup q1 q2) rx; exact SeqAt.EqAt.none_tuple p (Nat.lt_of_le_of_lt (Nat.le_add_right _ _) hu)
    | dct _ _ => simp [ndc] at he
  | .bool a, e, _, w, _, x, A, r, q, ru, rx, _, he, hu => by
    cases r; cases ru
    cases q with
    | non => cases rx; exact SeqAt.EqAt.bool_none a
    | bl b => cases rx; exact SeqAt.EqAt.bool_bool a b
    | int b => obtain ⟨t, rfl⟩ := rx; exact SeqAt.EqAt.bool_int a b t
    | str b => obtain ⟨t, rfl⟩ := rx; exact SeqAt.EqAt.bool_str a b t
    | lst q1 q2 => obtain ⟨_, _, _, e1, rfl, _, _, _, p⟩ := rep_list I hs (.lst q1 q2) rx; exact SeqAt.EqAt.bool_list a p (Nat.lt_of_le_of_lt (Nat.le_add_right _ _) hu)
    | tup q1 q2 => obtain ⟨_, _, _, e1, rfl, _, _, _, p⟩ := rep_tuple I hs (.tup q1 q2) rx; exact SeqAt.EqAt.bool_tuple a p (Nat.lt_of_le_of_lt (Nat.le_add_right _ _) hu)
    | dct _ _ => simp [ndc] at he
  | .int a, e, _, w, _, x, A, r, q, ru, rx, _, he, hu => by
    cases r; obtain ⟨t', rfl⟩ := ru
    cases q with
    | non => cases rx; exact SeqAt.EqAt.int_none a t'
    | bl b => cases rx; exact SeqAt.EqAt.int_bool a t' b
    | int b => obtain ⟨t, rfl⟩ := rx; exact SeqAt.EqAt.int_int a t' b t
    | str b => obtain ⟨t, rfl⟩ := rx; exact SeqAt.EqAt.int_str a t' b t
    | lst q1 q2 => obtain ⟨_, _, _, e1, rfl, _, _, _, p⟩ := rep_list I hs (.lst q1 q2) rx; exact SeqAt.EqAt.int_list a t' p (Nat.lt_of_le_of_lt (Nat.le_add_right _ _) hu)
    | tup q1 q2 => obtain ⟨_, _, _, e1, rfl, _, _, _, p⟩ := rep_tuple I hs (.tup q1 q2) rx; exact SeqAt.EqAt.int_tuple a t' p (Nat.lt_of_le_of_lt (Nat.le_add_right _ _) hu)
    | dct _ _ => simp [ndc] at he
  | .str a, e, _, w, _, x, A, r, q, ru, rx, _, he, hu => by
    cases r; obtain ⟨t', rfl⟩ := ru
    cases q with
    | non => cases rx; exact SeqAt.EqAt.str_none a t'
    | bl b => cases rx; exact SeqAt.EqAt.str_bool a t' b
    | int b => obtain ⟨t, rfl⟩ := rx; exact SeqAt.EqAt.str_int a t' b t
    | str b => obtain ⟨t, rfl⟩ := rx; exact SeqAt.EqAt.str_str a t' b t
    | lst q1 q2 => obtain ⟨_, _, _, e1, rfl, _, _, _, p⟩ := rep_list I hs (.lst q1 q2) rx; exact SeqAt.EqAt.str_list a t' p (Nat.lt_of_le_of_lt (Nat.le_add_right _ _) hu)
    | tup q1 q2 => obtain ⟨_, _, _, e1, rfl, _, _, _, p⟩ := rep_tuple I hs (.tup q1 q2) rx; exact SeqAt.EqAt.str_tuple a t' p (Nat.lt_of_le_of_lt (Nat.le_add_right _ _) hu)
    | dct _ _ => simp [ndc] at he
  | .list ds, e, v, w, _, x, A, r, q, ru, rx, hd, he, hu => by
    obtain ⟨a, vs, us, e1, rfl, hS, rr, rv, p⟩ := rep_list I hs r ru
    have hA : A.units < cLine := Nat.lt_of_le_of_lt (Nat.le_add_right _ _) hu
    cases q with
    | non => cases rx; exact SeqAt.EqAt.list_none p hA
    | bl b => cases rx; exact SeqAt.EqAt.list_bool b p hA
    | int b => obtain ⟨t, rfl⟩ := rx; exact SeqAt.EqAt.list_int b t p hA
    | str b => obtain ⟨t, rfl⟩ := rx; exact SeqAt.EqAt.list_str b t p hA
    | tup q1 q2 => obtain ⟨_, _, _, e2, rfl, _, _, _, p2⟩ := rep_tuple I hs (.tup q1 q2) rx; exact SeqAt.EqAt.list_tuple p p2 hA
    | @lst a2 vs2 ds2 q1 q2 =>
      obtain ⟨b, ws, xs, e2, rfl, hS2, rr2, rv2, p2⟩ := rep_list I hs (.lst q1 q2) rx
      by_cases hab : a = b
      · subst hab
        have z : (PyData.list ds) = .list ds2 := Rep.inj I hs _ _ v r (by rw [e1, ← e2]; exact .lst q1 q2) hd he
        cases z
        rw [eqv_refl _ hd]
        exact SeqAt.EqAt.same _
      · show SeqAt.EqAt A s (.ref a) (.ref b) (PyData.eqvAll ds ds2)
        have n1 : us.toArray.size = ds.length := by rw [List.size_toArray, ← rr.length, rv.length]
        have n2 : xs.toArray.size = ds2.length := by rw [List.size_toArray, ← rr2.length, rv2.length]
        refine .of_refs hab ?_
        by_cases hz : ds.length = ds2.length
        · rw [← alike_all ds ds2 hz, ← n1]
          refine SeqAt.RcAt.lists p p2 (by rw [n1, n2, hz]) hA fun j h1 h2 => ?_
          exact eqsAt_rep I hs ds ds2 vs ws us xs A.in1 rr rr2 rv rv2 (by simpa [ndc] using hd) (by simpa [ndc] using he) (by rw [in1_units]; simp only [PyData.depth] at hu; omega) j (by simpa using h1) (by simpa using h2)
        · rw [eqvAll_len ds ds2 hz]
          exact SeqAt.RcAt.lists_lengths p p2 (by rw [n1, n2]; simpa using hz) hA
    | dct _ _ => simp [ndc] at he
  | .tuple ds, e, v, w, _, x, A, r, q, ru, rx, hd, he, hu => by
    obtain ⟨a, vs, us, e1, rfl, hS, rr, rv, p⟩ := rep_tuple I hs r ru
    have hA : A.units < cLine := Nat.lt_of_le_of_lt (Nat.le_add_right _ _) hu
    cases q with
    | non => cases rx; exact SeqAt.EqAt.tuple_none p hA
    | bl b => cases rx; exact SeqAt.EqAt.tuple_bool b p hA
    | int b => obtain ⟨t, rfl⟩ := rx; exact SeqAt.EqAt.tuple_int b t p hA
    | str b => obtain ⟨t, rfl⟩ := rx; exact SeqAt.EqAt.tuple_str b t p hA
    | lst q1 q2 => obtain ⟨_, _, _, e2, rfl, _, _, _, p2⟩ := rep_list I hs (.lst q1 q2) rx; exact SeqAt.EqAt.tuple_list p p2 hA
    | @tup a2 vs2 ds2 q1 q2 =>
      obtain ⟨b, ws, xs, e2, rfl, hS2, rr2, rv2, p2⟩ := rep_tuple I hs (.tup q1 q2) rx
      by_cases hab : a = b
      · subst hab
        have z : (PyData.tuple ds) = .tuple ds2 := Rep.inj I hs _ _ v r (by rw [e1, ← e2]; exact .tup q1 q2) hd he
        cases z
        rw [eqv_refl _ hd]
        exact SeqAt.EqAt.same _
      · show SeqAt.EqAt A s (.ref a) (.ref b) (PyData.eqvAll ds ds2)
        have n1 : us.toArray.size = ds.length := by rw [List.size_toArray, ← rr.length, rv.length]
        have n2 : xs.toArray.size = ds2.length := by rw [List.size_toArray, ← rr2.length, rv2.length]
        refine .of_refs hab ?_
        rw [← alike_tup ds ds2, ← n1, ← n2]
        refine SeqAt.RcAt.tuples p p2 hA fun j h1 h2 => ?_
        exact eqsAt_rep I hs ds ds2 vs ws us xs A.in1 rr rr2 rv rv2 (by simpa [ndc] using hd) (by simpa [ndc] using he) (by rw [in1_units]; simp only [PyData.depth] at hu; omega) j (by simpa using h1) (by simpa using h2)
    | dct _ _ => simp [ndc] at he
  | .dict _, _, _, _, _, _, _, _, _, _, _, h, _, _ => by simp [ndc] at h
theorem eqsAt_rep (I : Inv X pins σ H s) (hs : Same G H) : ∀ (ds es : List Dat) (vs ws : List V) (us xs : List Value) (A : Around), Reps X.K G vs ds → Reps X.K G ws es → Vals vs us → Vals ws xs → ndcs ds = true → ndcs es = true →
    A.units + PyData.depthAll ds < cLine → ∀ (j : Nat) (h1 : j < us.length) (h2 : j < xs.length), SeqAt.EqAt A s us[j] xs[j] (alike ds es j)
  | [], _, _, _, _, _, _, r, _, ru, _, _, _, _ => by
    cases r; cases ru
    intro j h1
    simp at h1
  | d :: ds, es, _, _, _, _, A, r, q, ru, rx, hd, he, hu => by
    cases r with
    | cons r t =>
      cases ru with
      | cons r1 t1 =>
        cases q with
        | nil =>
          cases rx
          intro j _ h2
          simp at h2
        | cons q t2 =>
          cases rx with
          | cons r2 t3 =>
            have h1' : ndc d = true ∧ ndcs ds = true := by simpa [ndcs] using hd
            simp only [ndcs, Bool.and_eq_true] at he
            simp only [PyData.depthAll] at hu
            intro j k1 k2
            cases j with
            | zero => exact eqAt_rep I hs d _ _ _ _ _ A r q r1 r2 h1'.1 he.1 (by omega)
            | succ j => exact eqsAt_rep I hs ds _ _ _ _ _ A t t2 t1 t3 h1'.2 he.2 (by omega) j (by simpa using k1) (by simpa using k2)
end
end
end NW
end

section
set_option maxHeartbeats 4000000
/-! What a def's text means over plain data: expressions, statements, without a heap. -/
namespace NW
open PySem PySem.Spec PyProof.Rows L2

inductive Res (α : Type) where
  | ok (a : α)
  | exc (c : Str) (x : Option Dat)
  | bad
def Res.bind {α β : Type} (r : Res α) (f : α → Res β) : Res β := match r with
  | .ok a => f a
  | .exc c x => .exc c x
  | .bad => .bad
instance : Monad Res where
  pure := .ok
  bind := Res.bind
theorem nrfl {α : Type} {a b : α} (h : a = b) : a = b := h
@[simp] theorem ok_bind {α β : Type} (a : α) (f : α → Res β) : (Res.ok a >>= f) = f a := nrfl rfl
@[simp] theorem exc_bind {α β : Type} (c : Str) (x : Option Dat) (f : α → Res β) : ((Res.exc c x : Res α) >>= f) = .exc c x := nrfl rfl
@[simp] theorem bad_bind {α β : Type} (f : α → Res β) : ((Res.bad : Res α) >>= f) = .bad := nrfl rfl
@[simp] theorem pure_ok {α : Type} (a : α) : (pure a : Res α) = .ok a := nrfl rfl

/-- a slot: nothing; a thing that stays as it is; a list of this def's own; a list that is lent -/
inductive Sl where
  | un
  | fz (d : Dat)
  | ow (ds : List Dat)
  | ln (ds : List Dat)
  | ex (a : Addr) (dx : Option Addr) (c : Str) (x : Option Dat)
abbrev En := List Sl

/-! ### operations -/
inductive Bop where | add | sub | mul | div | mod | pow
inductive Cop where | eq | ne | lt | le | gt | ge | isin | nin | isN | ntN
/-- what may be compared -/
def shOk (d : Dat) : Bool := ndc d && decide (PyData.depth d ≤ 100)
def binD : Bop → Dat → Dat → Res Dat
  | .add, .int a, .int b => .ok (.int (a + b))
  | .add, .str a, .str b => if a.length + b.length ≤ 1000000 then .ok (.str (a ++ b)) else .bad
  | .add, .tuple a, .tuple b => if a.length + b.length ≤ 1000000 then .ok (.tuple (a ++ b)) else .bad
  | .add, .list a, .list b => if a.length + b.length ≤ 1000000 then .ok (.list (a ++ b)) else .bad
  | .sub, .int a, .int b => .ok (.int (a - b))
  | .mul, .int a, .int b => if (-(2 ^ 64) < a ∧ a < 2 ^ 64) ∨ (-(2 ^ 64) < b ∧ b < 2 ^ 64) then .ok (.int (a * b)) else .bad
  | .mul, .str a, .int b => if a.length ≤ 16 ∧ 0 ≤ b ∧ b ≤ 1000 then .ok (.str (Txt.mul a b)) else .bad
  | .mul, .tuple a, .int b => if b = 0 ∨ b = 1 then .ok (.tuple (if b = 1 then a else [])) else .bad
  | .div, .int a, .int b => if b ≠ 0 ∧ b.natAbs < 1073741824 then .ok (.int (a.fdiv b)) else .bad
  | .mod, .int a, .int b => if b ≠ 0 then .ok (.int (a.fmod b)) else .bad
  | .pow, .int a, .int b => if 0 ≤ b ∧ b ≤ 1000000 ∧ a.natAbs < 2 ^ 64 then .ok (.int (a ^ b.toNat)) else .bad
  | _, _, _ => .bad
def inD (x : Dat) : List Dat → Bool
  | [] => false
  | y :: ys => PyData.eqv y x || inD x ys
def strIn (a b : Str) : Bool := match a.cps.toList with
  | [c] => decide (c ∈ b.cps.toList)
  | _ => !(Builtin.Str.occurrences b a 0 b.length 1).isEmpty
/-- a in b -/
def inB (a : Dat) : Dat → Res Bool
  | .list b => if shOk a && shOk (.list b) then .ok (inD a b) else .bad
  | .tuple b => if shOk a && shOk (.tuple b) then .ok (inD a b) else .bad
  | .str b => match a with
    | .str a => .ok (strIn a b)
    | _ => .bad
  | _ => .bad
def cmpD : Cop → Dat → Dat → Res Bool
  | .eq, a, b => if shOk a && shOk b then .ok (PyData.eqv a b) else .bad
  | .ne, a, b => if shOk a && shOk b then .ok (!PyData.eqv a b) else .bad
  | .lt, .int a, .int b => .ok (decide (a < b))
  | .le, .int a, .int b => .ok (decide (a ≤ b))
  | .gt, .int a, .int b => .ok (decide (b < a))
  | .ge, .int a, .int b => .ok (decide (b ≤ a))
  | .lt, .str a, .str b => .ok (decide (a.cps.toList < b.cps.toList))
  | .le, .str a, .str b => .ok (!decide (b.cps.toList < a.cps.toList))
  | .gt, .str a, .str b => .ok (decide (b.cps.toList < a.cps.toList))
  | .ge, .str a, .str b => .ok (!decide (a.cps.toList < b.cps.toList))
  | .isin, a, b => inB a b
  | .nin, a, b => inB a b >>= fun r => .ok (!r)
  | .isN, .none, .none => .ok true
  | .isN, _, .none => .ok false
  | .ntN, .none, .none => .ok false
  | .ntN, _, .none => .ok true
  | _, _, _ => .bad
@[simp] def truD : Dat → Res Bool
  | .none => .ok false
  | .bool b => .ok b
  | .int i => .ok (i != 0)
  | .str s => if s.length ≤ 1000000 then .ok (decide (s.length ≠ 0)) else .bad
  | .list ds => .ok (!ds.isEmpty)
  | .tuple ds => .ok (!ds.isEmpty)
  | .dict _ => .bad
@[simp] def ixD : Dat → Dat → Res Dat
  | .list ds, .int i => match atI ds i with
    | some d => .ok d
    | none => .bad
  | .tuple ds, .int i => match atI ds i with
    | some d => .ok d
    | none => .bad
  | .str s, .int i => if s.length ≤ 1000000 then (match atI s.cps.toList i with
    | some c => .ok (.str ⟨#[c]⟩)
    | none => .bad) else .bad
  | _, _ => .bad
/-- xs[lo:hi] -/
def cutL {α : Type} (xs : List α) (lo hi : Option Int) : List α := (xs.drop (HT.sIx xs.length 0 lo)).take (HT.sIx xs.length xs.length hi - HT.sIx xs.length 0 lo)
@[simp] def slD (d : Dat) (lo hi : Option Int) : Res Dat := match d with
  | .list ds => .ok (.list (cutL ds lo hi))
  | .tuple ds => .ok (.tuple (cutL ds lo hi))
  | .str s => if s.length ≤ 1000000 then .ok (.str (cutS s lo hi)) else .bad
  | _ => .bad
def strsD : List Dat → Option (List Str)
  | [] => some []
  | .str x :: r => (strsD r).map (x :: ·)
  | _ :: _ => none
def intsD : List Dat → Option (List Int)
  | [] => some []
  | .int x :: r => (intsD r).map (x :: ·)
  | _ :: _ => none
def boolsD : List Dat → Option (List Bool)
  | [] => some []
  | .bool x :: r => (boolsD r).map (x :: ·)
  | _ :: _ => none
/-- texts in order -/
def leS (a b : Str) : Bool := !ltCps b.cps.toList a.cps.toList
def sortStr (xs : List Str) : List Str := xs.mergeSort leS
def minL (n : Int) (r : List Int) : Int := r.foldl (fun a b => if b < a then b else a) n
def anyD (ds : List Dat) : Res Dat := match boolsD ds with
  | some bs => .ok (.bool (bs.any id))
  | none => .bad
def allD (ds : List Dat) : Res Dat := match boolsD ds with
  | some bs => .ok (.bool (bs.all id))
  | none => .bad
def minD (ds : List Dat) : Res Dat := match intsD ds with
  | some (n :: r) => .ok (.int (minL n r))
  | _ => .bad
/-- names in order -/
def ltN : List Str → List Str → Bool
  | [], [] => false
  | [], _ :: _ => true
  | _ :: _, [] => false
  | a :: r, b :: q => if a = b then ltN r q else decide (a.cps.toList < b.cps.toList)
def leN (a b : List Str) : Bool := !ltN b a
def sortN (N : List (List Str)) : List (List Str) := N.mergeSort leN
def namesD : List Dat → Option (List (List Str))
  | [] => some []
  | .tuple d :: r => match strsD d with
    | some a => (namesD r).map (a :: ·)
    | none => none
  | _ :: _ => none
def sortND (ds : List Dat) : Res Dat := match namesD ds with
  | some N => if N.length < 64 then .ok (.list ((sortN N).map fun a => .tuple (a.map PyData.str))) else .bad
  | none => .bad
def sortD (ds : List Dat) : Res Dat := match strsD ds with
  | some xs => if xs.length < 64 then .ok (.list ((sortStr xs).map PyData.str)) else .bad
  | none => sortND ds
inductive Bi where | len | min2 | max2 | int | str | ord | tuple | list | any | all | min1 | sorted
@[simp] def biD : Bi → List Dat → Res Dat
  | .len, [.str s] => if s.length ≤ 1000000 then .ok (.int s.length) else .bad
  | .len, [.list ds] => .ok (.int ds.length)
  | .len, [.tuple ds] => .ok (.int ds.length)
  | .min2, [.int a, .int b] => .ok (.int (if b < a then b else a))
  | .max2, [.int a, .int b] => .ok (.int (if b > a then b else a))
  | .int, [.str s] => match PySem.intText? s with
    | some n => if s.length ≤ 640 then .ok (.int n) else .bad
    | none => .bad
  | .int, [.bool b] => .ok (.int (if b then 1 else 0))
  | .str, [.int i] => if i.natAbs.log2 < 1920 then .ok (.str (toString i)) else .bad
  | .ord, [.str s] => if s.length = 1 then .ok (.int ((s.cps.getD 0 0 : Nat) : Int)) else .bad
  | .tuple, [.list ds] => .ok (.tuple ds)
  | .tuple, [.tuple ds] => .ok (.tuple ds)
  | .list, [.list ds] => .ok (.list ds)
  | .list, [.tuple ds] => .ok (.list ds)
  | .any, [.list ds] => anyD ds
  | .all, [.list ds] => allD ds
  | .min1, [.list ds] => minD ds
  | .sorted, [.list ds] => sortD ds
  | _, _ => .bad
/-- isinstance of a built-in class -/
inductive Ty where | int | str | bool | tuple | list
  deriving DecidableEq
@[simp] def isiD : Ty → Dat → Res Bool
  | .int, .int _ => .ok true
  | .int, .bool _ => .ok true
  | .str, .str _ => .ok true
  | .bool, .bool _ => .ok true
  | .tuple, .tuple _ => .ok true
  | .list, .list _ => .ok true
  | _, .dict _ => .bad
  | _, _ => .ok false
inductive M0 where | lower | upper
def m0D : M0 → Dat → Res Dat
  | .lower, .str a => if a.length ≤ 1000000 then .ok (.str (Txt.lower a)) else .bad
  | .upper, .str a => if a.length ≤ 1000000 then .ok (.str (Txt.upper a)) else .bad
  | _, _ => .bad
inductive M1 where | startswith | endswith | split | join | index | rstrip | find
def joinD (a : Str) (ds : List Dat) : Res Dat := match strsD ds with
  | some ys => if (ys.map (·.length)).sum + ys.length * a.length ≤ 1000000 then .ok (.str (Txt.join a ys)) else .bad
  | none => .bad
def m1D : M1 → Dat → Dat → Res Dat
  | .startswith, .str a, .str b => .ok (.bool (Txt.startswith a b))
  | .endswith, .str a, .str b => .ok (.bool (Txt.endswith a b))
  | .split, .str a, .str b => if b.length ≠ 0 ∧ a.length ≤ 1000000 then .ok (.list ((Txt.split a b).map PyData.str)) else .bad
  | .join, .str a, .list ds => joinD a ds
  | .join, .str a, .tuple ds => joinD a ds
  | .index, .str a, .str b => match Builtin.Str.occurrences a b 0 a.length 1 with
    | k :: _ => .ok (.int (k : Nat))
    | [] => .bad
  | .find, .str a, .str b => .ok (.int (Txt.find a b))
  | .rstrip, .str a, .str b => if a.length ≤ 1000000 then .ok (.str (Txt.rstripChars a b)) else .bad
  | _, _, _ => .bad

/-! ### the text -/
inductive Tg where
  | nm (i : Nat)
  | tp (is : List Nat)
mutual
inductive E where
  | var (i : Nat) | tv (i : Nat)
  | non | bl (b : Bool) | int (i : Int) | str (x : Str)
  | con (k : Nat)
  | bin (o : Bop) (a b : E)
  | neg (a : E)
  | cmp (o : Cop) (a b : E)
  | chn (o p : Cop) (a b c : E)
  | and (a b : E) | or (a b : E) | not (a : E)
  | ife (c a b : E)
  | ix (a i : E)
  | sl (a lo hi : E)
  | no
  | tup (es : Es) | lst (es : Es)
  | cal (k : Nat) (es : Es)
  | calk (k : Nat) (es : Es) (w : Str) (e : E)
  | bi (f : Bi) (es : Es)
  | isi (t : Ty) (e : E)
  | iss (a : Addr) (dx : Option Addr) (c : Str) (i : Nat) (C : Str)
  | xrw (a : Addr) (dx : Option Addr) (c : Str) (i : Nat)
  | nrw (c : Str) (e : E)
  | m0 (m : M0) (o : E)
  | m1 (m : M1) (o e : E)
  | dc0
  | dc1 (k e : E)
  | dget (o k e : E)
  | lc (own : List Nat) (tg : Tg) (it : It) (tt elt : E)
inductive Es where
  | nil | cons (e : E) (r : Es)
inductive It where
  | seq (e : E) | lent (i : Nat) | own (i : Nat) | rng1 (a : E) | rng2 (a b : E)
end
/-- the program: its defs by number, its constants -/
structure Pg where
  F : Nat → List Dat → Res Dat
  C : Nat → Dat
  /-- does an exception of the first class meet a clause of the second -/
  X : Str → Str → Option Bool
  /-- is an exception of the first class an instance of the second -/
  I : Str → Str → Option Bool

def getS (ρ : En) (i : Nat) : Sl := ρ.getD i .un
@[simp] def unS : List Nat → En → En
  | [], ρ => ρ
  | i :: is, ρ => (unS is ρ).set i .un
@[simp] def setT : Tg → Dat → En → Res En
  | .nm i, d, ρ => .ok (ρ.set i (.fz d))
  | .tp is, .tuple ds, ρ => if ds.length = is.length then .ok ((is.zip ds).foldl (fun r p => r.set p.1 (.fz p.2)) ρ) else .bad
  | .tp _, _, _ => .bad
@[simp] def partD : Dat → Res (Option Int)
  | .int i => .ok (some i)
  | _ => .bad
/-- nothing may be raised here -/
def noX {α : Type} : Res α → Res α
  | .ok a => .ok a
  | _ => .bad
@[simp] theorem noX_ok {α : Type} (a : α) : noX (.ok a) = .ok a := nrfl rfl
@[simp] theorem noX_bad {α : Type} : noX (.bad : Res α) = .bad := nrfl rfl
def lcL (f : Dat → Res (Option Dat)) : List Dat → Res (List Dat)
  | [] => .ok []
  | x :: xs => f x >>= fun o => lcL f xs >>= fun r => .ok (match o with
    | some y => y :: r
    | none => r)
def rngL (a : Int) (n : Nat) : List Dat := (List.range n).map fun i => PyData.int (a + (i : Nat))
@[simp] def itemsD : Dat → Res (List Dat)
  | .list ds => .ok ds
  | .tuple ds => .ok ds
  | .str s => .ok (s.cps.toList.map fun c => PyData.str ⟨#[c]⟩)
  | _ => .bad
def small62 (a : Int) : Bool := decide (-(2 ^ 62) ≤ a ∧ a < 2 ^ 62)
@[simp] def strD : Dat → Res Str
  | .str s => .ok s
  | _ => .bad
/-- what stands by a text -/
def lkD : List (Dat × Dat) → Str → Option Dat
  | [], _ => none
  | (.str y, d) :: r, x => if y = x then some d else lkD r x
  | (_, _) :: r, x => lkD r x
@[simp] def isDct : Dat → Res (List (Dat × Dat))
  | .dict kvs => .ok kvs
  | _ => .bad
/-- a part of a slice, left out or an int -/
@[simp] def optE : E → Res Dat → Res (Option Int)
  | .no, _ => .ok none
  | _, r => r >>= fun d => partD d
mutual
def ev (P : Pg) : E → En → Res Dat
  | .var i, ρ => match getS ρ i with
    | .fz d => .ok d
    | _ => .bad
  | .tv i, ρ => match getS ρ i with
    | .fz (.list ds) => .ok (.list ds)
    | .ow ds => .ok (.list ds)
    | .ln ds => .ok (.list ds)
    | _ => .bad
  | .non, _ => .ok .none
  | .bl b, _ => .ok (.bool b)
  | .int i, _ => .ok (.int i)
  | .str x, _ => .ok (.str x)
  | .con k, _ => .ok (P.C k)
  | .bin o a b, ρ => ev P a ρ >>= fun d => ev P b ρ >>= fun e => binD o d e
  | .neg a, ρ => ev P a ρ >>= fun d => match d with
    | .int i => .ok (.int (-i))
    | _ => .bad
  | .cmp o a b, ρ => ev P a ρ >>= fun d => ev P b ρ >>= fun e => cmpD o d e >>= fun r => .ok (.bool r)
  | .chn o p a b c, ρ => ev P a ρ >>= fun d => ev P b ρ >>= fun e => cmpD o d e >>= fun r => match r with
    | true => ev P c ρ >>= fun f => cmpD p e f >>= fun r => .ok (.bool r)
    | false => .ok (.bool false)
  | .and a b, ρ => ev P a ρ >>= fun d => truD d >>= fun r => match r with
    | true => ev P b ρ
    | false => .ok d
  | .or a b, ρ => ev P a ρ >>= fun d => truD d >>= fun r => match r with
    | true => .ok d
    | false => ev P b ρ
  | .not a, ρ => ev P a ρ >>= fun d => truD d >>= fun r => .ok (.bool (!r))
  | .ife c a b, ρ => ev P c ρ >>= fun d => truD d >>= fun r => match r with
    | true => ev P a ρ
    | false => ev P b ρ
  | .ix a i, ρ => ev P a ρ >>= fun d => ev P i ρ >>= fun e => ixD d e
  | .sl a lo hi, ρ => ev P a ρ >>= fun d => optE lo (ev P lo ρ) >>= fun l => optE hi (ev P hi ρ) >>= fun h => slD d l h
  | .no, _ => .bad
  | .tup es, ρ => evs P es ρ >>= fun ds => if ds.length ≤ 1000000 then .ok (.tuple ds) else .bad
  | .lst es, ρ => evs P es ρ >>= fun ds => if ds.length ≤ 1000000 then .ok (.list ds) else .bad
  | .cal k es, ρ => evs P es ρ >>= fun ds => P.F k ds
  | .calk k es _ e, ρ => evs P es ρ >>= fun ds => ev P e ρ >>= fun d => P.F k (ds ++ [d])
  | .bi f es, ρ => evs P es ρ >>= fun ds => biD f ds
  | .iss a dx c i C, ρ => match getS ρ i with
    | .ex a' dx' c' _ => if a' = a ∧ dx' = dx ∧ c' = c then (match P.I c C with
      | some b => .ok (.bool b)
      | none => .bad) else .bad
    | _ => .bad
  | .nrw _ e, ρ => ev P e ρ
  | .xrw a dx c i, ρ => match getS ρ i with
    | .ex a' dx' c' (some d) => if a' = a ∧ dx' = dx ∧ c' = c then .ok d else .bad
    | _ => .bad
  | .isi t e, ρ => ev P e ρ >>= fun d => isiD t d >>= fun r => .ok (.bool r)
  | .m0 m o, ρ => ev P o ρ >>= fun d => m0D m d
  | .m1 m o a, ρ => ev P o ρ >>= fun d => strD d >>= fun s => ev P a ρ >>= fun e => m1D m (.str s) e
  | .dc0, _ => .ok (.dict [])
  | .dc1 k e, ρ => ev P k ρ >>= fun d => strD d >>= fun x => ev P e ρ >>= fun y => .ok (.dict [(.str x, y)])
  | .dget o k e, ρ => ev P o ρ >>= fun d => isDct d >>= fun kvs => ev P k ρ >>= fun d => strD d >>= fun x => ev P e ρ >>= fun y => .ok ((lkD kvs x).getD y)
  | .lc own tg it tt elt, ρ => evI P it ρ >>= fun xs => if xs.length ≤ 1000000 then
      lcL (fun x => noX (setT tg x (unS own ρ) >>= fun ρ1 => ev P tt ρ1 >>= fun t => truD t >>= fun r => match r with
        | true => ev P elt ρ1 >>= fun y => .ok (some y)
        | false => .ok none)) xs >>= fun ys => .ok (.list ys) else .bad
def evs (P : Pg) : Es → En → Res (List Dat)
  | .nil, _ => .ok []
  | .cons e r, ρ => ev P e ρ >>= fun d => evs P r ρ >>= fun ds => .ok (d :: ds)
def evI (P : Pg) : It → En → Res (List Dat)
  | .seq e, ρ => ev P e ρ >>= fun d => itemsD d
  | .lent i, ρ => match getS ρ i with
    | .ln ds => .ok ds
    | _ => .bad
  | .own i, ρ => match getS ρ i with
    | .ow ds => .ok ds
    | _ => .bad
  | .rng1 a, ρ => ev P a ρ >>= fun d => match d with
    | .int n => if small62 n then .ok (rngL 0 n.toNat) else .bad
    | _ => .bad
  | .rng2 a b, ρ => ev P a ρ >>= fun d => ev P b ρ >>= fun e => match d, e with
    | .int m, .int n => if small62 m && small62 n then .ok (rngL m (n - m).toNat) else .bad
    | _, _ => .bad
end

/-! ### statements -/
inductive Out where
  | nx (ρ : En) | ct (ρ : En) | ret (d : Dat) | exc (c : Str) (x : Option Dat) | bad
def Out.of {α : Type} (r : Res α) (f : α → Out) : Out := match r with
  | .ok a => f a
  | .exc c x => .exc c x
  | .bad => .bad
@[simp] theorem out_ok {α : Type} (a : α) (f : α → Out) : Out.of (.ok a) f = f a := nrfl rfl
@[simp] theorem out_bad {α : Type} (f : α → Out) : Out.of (.bad : Res α) f = .bad := nrfl rfl
@[simp] theorem out_exc {α : Type} (c : Str) (x : Option Dat) (f : α → Out) : Out.of (.exc c x : Res α) f = .exc c x := nrfl rfl
mutual
inductive S where
  | set (i : Nat) (e : E)
  | setO (i : Nat) (e : E)
  | tup (is : List Nat) (e : E)
  | app (i : Nat) (e : E)
  | rev (i : Nat)
  | ext (i : Nat) (e : E)
  | ifs (c : E) (a b : Ss)
  | for_ (tmp : List Nat) (tg : Tg) (it : It) (body : Ss)
  | whil (fuel : En → Nat) (tmp : List Nat) (c : E) (body : Ss)
  | ret (e : E) | retF (fl : List Bool) (es : Es) | retL (es : Es) (i : Nat) | retC (e : E) | retO (e : E) | retV (i : Nat) | retN
  | expr (e : E)
  | pass | cont
  | rais (c : Str)
  | nope
  | raisX (c : Str) (e : E)
  | tryX (e : E) (c d : Str) (i : Nat)
  | tryR (e : E) (c : Str) (i j : Nat) (ns : List (List Str))
  | tryB (e : E) (c : Str)
  | tryI (e : E) (c : Str) (i j : Nat) (n1 n2 : List Str)
  | tryE (i : Option Nat) (e : E) (c : Str) (j : Nat) (h : E)
inductive Ss where
  | nil | cons (s : S) (r : Ss) | frz (i : Nat) (r : Ss)
  | lease (i : Nat) (e c1 r c2 : E) (k : Nat) (o : Option E) (rest : Ss)
end
/-- then -/
def Out.thn (o : Out) (f : En → Out) : Out := match o with
  | .nx ρ => f ρ
  | o => o
@[simp] theorem thn_nx (ρ : En) (f : En → Out) : (Out.nx ρ).thn f = f ρ := nrfl rfl
@[simp] theorem thn_ct (ρ : En) (f : En → Out) : (Out.ct ρ).thn f = .ct ρ := nrfl rfl
@[simp] theorem thn_ret (d : Dat) (f : En → Out) : (Out.ret d).thn f = .ret d := nrfl rfl
@[simp] theorem thn_bad (f : En → Out) : (Out.bad).thn f = .bad := nrfl rfl
@[simp] theorem thn_exc (c : Str) (x : Option Dat) (f : En → Out) : (Out.exc c x).thn f = .exc c x := nrfl rfl
/-- a turn's end -/
def Out.turn (o : Out) (f : En → Out) : Out := match o with
  | .nx ρ => f ρ
  | .ct ρ => f ρ
  | o => o
@[simp] theorem turn_nx (ρ : En) (f : En → Out) : (Out.nx ρ).turn f = f ρ := nrfl rfl
@[simp] theorem turn_ct (ρ : En) (f : En → Out) : (Out.ct ρ).turn f = f ρ := nrfl rfl
@[simp] theorem turn_ret (d : Dat) (f : En → Out) : (Out.ret d).turn f = .ret d := nrfl rfl
@[simp] theorem turn_bad (f : En → Out) : (Out.bad).turn f = .bad := nrfl rfl
@[simp] theorem turn_exc (c : Str) (x : Option Dat) (f : En → Out) : (Out.exc c x).turn f = .exc c x := nrfl rfl
/-- xs in turn; tmp: what is forgotten ahead of each turn and behind the last -/
def forL (tmp : List Nat) (f : Dat → En → Out) : List Dat → En → Out
  | [], ρ => .nx (unS tmp ρ)
  | x :: xs, ρ => (f x (unS tmp ρ)).turn (forL tmp f xs)
def whilL (tmp : List Nat) (c : En → Res Bool) (f : En → Out) : Nat → En → Out
  | 0, _ => .bad
  | n + 1, ρ => Out.of (c (unS tmp ρ)) fun b => match b with
    | true => (f (unS tmp ρ)).turn (whilL tmp c f n)
    | false => .nx (unS tmp ρ)
def isLst : Dat → Bool
  | .list _ => true
  | _ => false
/-- only what fl tells may be a list -/
def freshT : List Bool → List Dat → Bool
  | _, [] => true
  | [], d :: ds => !isLst d && freshT [] ds
  | b :: fl, d :: ds => (b || !isLst d) && freshT fl ds
theorem freshT_none : ∀ {fl : List Bool} {ds : List Dat}, freshT fl ds = true → ∀ (i : Nat) (e : Dat), ds[i]? = some e → fl[i]? = none → isLst e = false
  | _, [], _, i, e, h, _ => by simp at h
  | [], d :: ds, h, 0, e, h1, _ => by
    simp only [freshT, Bool.and_eq_true, Bool.not_eq_true'] at h
    simp at h1
    subst h1
    exact h.1
  | [], d :: ds, h, i + 1, e, h1, _ => by
    simp only [freshT, Bool.and_eq_true] at h
    exact freshT_none (fl := []) h.2 i e (by simpa using h1) (by simp)
  | b :: fl, d :: ds, h, 0, e, _, h2 => by simp at h2
  | b :: fl, d :: ds, h, i + 1, e, h1, h2 => by
    simp only [freshT, Bool.and_eq_true] at h
    exact freshT_none h.2 i e (by simpa using h1) (by simpa using h2)
theorem freshT_false : ∀ {fl : List Bool} {ds : List Dat}, freshT fl ds = true → ∀ (i : Nat) (e : Dat), ds[i]? = some e → fl[i]? = some false → isLst e = false
  | _, [], _, i, e, h, _ => by simp at h
  | [], d :: ds, h, i, e, _, h2 => by simp at h2
  | b :: fl, d :: ds, h, 0, e, h1, h2 => by
    simp only [freshT, Bool.and_eq_true, Bool.or_eq_true, Bool.not_eq_true'] at h
    simp at h1 h2
    subst h1 h2
    exact h.1.resolve_left (by simp)
  | b :: fl, d :: ds, h, i + 1, e, h1, h2 => by
    simp only [freshT, Bool.and_eq_true] at h
    exact freshT_false h.2 i e (by simpa using h1) (by simpa using h2)
def isAll (f : Str → Option Bool) : List Str → Option (List Bool)
  | [] => some []
  | c :: r => match f c, isAll f r with
    | some b, some bs => some (b :: bs)
    | _, _ => none
/-- try: e except c as x: y = (isinstance(x, ..), ..); y = y + (..) -/
def tryIO (m : Str → Option Bool) (f : Str → Str → Option Bool) (i j : Nat) (n1 n2 : List Str) (ρ : En) : Res Dat → Out
  | .ok _ => .nx ρ
  | .exc c x => match m c with
    | some true => match x, isAll (f c) n1, isAll (f c) n2 with
      | none, some b1, some b2 => if i < ρ.length ∧ j < ρ.length ∧ i ≠ j ∧ b1.length + b2.length ≤ 1000 then .nx ((ρ.set j (.fz (.tuple ((b1 ++ b2).map .bool)))).set i .un) else .bad
      | _, _, _ => .bad
    | some false => .exc c x
    | none => .bad
  | .bad => .bad
/-- try: return e except c: raise d(x) -/
def tryXO (m : Str → Option Bool) (d : Str) (s : Sl) : Res Dat → Out
  | .ok v => .ret v
  | .exc c x => match m c with
    | some true => match s with
      | .fz v => .exc d (some v)
      | _ => .bad
    | some false => .exc c x
    | none => .bad
  | .bad => .bad
/-- try: e except c as x: y = (x.row, isinstance(x, ..), ..); y = y + (..); .. -/
def tryRO (m : Str → Option Bool) (f : Str → Str → Option Bool) (i j : Nat) (ns : List (List Str)) (ρ : En) : Res Dat → Out
  | .ok _ => .nx ρ
  | .exc c x => match m c with
    | some true => match x, isAll (f c) ns.flatten with
      | some d, some bs => if i < ρ.length ∧ j < ρ.length ∧ i ≠ j ∧ bs.length ≤ 1000 then .nx ((ρ.set j (.fz (.tuple (d :: bs.map .bool)))).set i .un) else .bad
      | _, _ => .bad
    | some false => .exc c x
    | none => .bad
  | .bad => .bad
def keepO (i : Option Nat) (ρ : En) (d : Dat) : Out := match i with
  | some i => .nx (ρ.set i (.fz d))
  | none => .nx ρ
/-- try: e (or x = e) except c: y = h -/
def tryO (m : Str → Option Bool) (i : Option Nat) (j : Nat) (ρ : En) (h : Res Dat) : Res Dat → Out
  | .ok d => keepO i ρ d
  | .exc c x => match m c with
    | some true => Out.of h fun d => .nx (ρ.set j (.fz d))
    | some false => .exc c x
    | none => .bad
  | .bad => .bad
/-- a list at place k of a tuple -/
def leaseK (d : Dat) (k : Nat) : Bool := match d with
  | .tuple ds => match ds[k]? with
    | some (.list es) => decide (es.length < 1000000)
    | _ => false
  | _ => false
mutual
def exS (P : Pg) : S → En → Out
  | .set i e, ρ => Out.of (ev P e ρ) fun d => .nx (ρ.set i (.fz d))
  | .setO i e, ρ => Out.of (ev P e ρ) fun d => match d with
    | .list ds => .nx (ρ.set i (.ow ds))
    | _ => .bad
  | .tup is e, ρ => Out.of (ev P e ρ) fun d => Out.of (setT (.tp is) d ρ) .nx
  | .app i e, ρ => match getS ρ i with
    | .ow ds => Out.of (ev P e ρ) fun d => if ds.length < 1000000 then .nx (ρ.set i (.ow (ds ++ [d]))) else .bad
    | _ => .bad
  | .rev i, ρ => match getS ρ i with
    | .ow ds => .nx (ρ.set i (.ow ds.reverse))
    | _ => .bad
  | .ext i e, ρ => match getS ρ i with
    | .ow ds => Out.of (ev P e ρ) fun d => match d with
      | .list es => if ds.length + es.length < 1000000 then .nx (ρ.set i (.ow (ds ++ es))) else .bad
      | _ => .bad
    | _ => .bad
  | .ifs c a b, ρ => Out.of (ev P c ρ >>= fun d => truD d) fun r => match r with
    | true => exSs P a ρ
    | false => exSs P b ρ
  | .for_ tmp tg it body, ρ => Out.of (evI P it ρ) fun xs => forL tmp (fun x ρ => Out.of (setT tg x ρ) (exSs P body)) xs ρ
  | .whil fuel tmp c body, ρ => whilL tmp (fun ρ => ev P c ρ >>= fun d => truD d) (exSs P body) (fuel ρ) ρ
  | .ret e, ρ => Out.of (ev P e ρ) .ret
  | .retO e, ρ => Out.of (ev P e ρ) .ret
  | .retC e, ρ => Out.of (ev P e ρ) .ret
  | .retF fl es, ρ => Out.of (evs P es ρ) fun ds => if ds.length ≤ 1000000 ∧ freshT fl ds = true then .ret (.tuple ds) else .bad
  | .retL es i, ρ => match getS ρ i with
    | .ow xs => Out.of (evs P es ρ) fun ds => if ds.length < 1000000 ∧ freshT [] ds = true then .ret (.tuple (ds ++ [.list xs])) else .bad
    | _ => .bad
  | .retV i, ρ => match getS ρ i with
    | .ow ds => .ret (.list ds)
    | _ => .bad
  | .retN, _ => .ret .none
  | .expr e, ρ => Out.of (ev P e ρ) fun _ => .nx ρ
  | .pass, ρ => .nx ρ
  | .cont, ρ => .ct ρ
  | .rais c, _ => .exc c none
  | .nope, _ => .bad
  | .raisX c e, ρ => Out.of (ev P e ρ) fun d => .exc c (some d)
  | .tryX e c d i, ρ => tryXO (fun c' => P.X c' c) d (getS ρ i) (ev P e ρ)
  | .tryR e c i j ns, ρ => tryRO (fun c' => P.X c' c) P.I i j ns ρ (ev P e ρ)
  | .tryB e _, ρ => match ev P e ρ with
    | .ok d => .ret d
    | _ => .bad
  | .tryI e c i j n1 n2, ρ => tryIO (fun c' => P.X c' c) P.I i j n1 n2 ρ (ev P e ρ)
  | .tryE i e c j h, ρ => tryO (fun c' => P.X c' c) i j ρ (ev P h ρ) (ev P e ρ)
def exSs (P : Pg) : Ss → En → Out
  | .nil, ρ => .nx ρ
  | .cons s r, ρ => (exS P s ρ).thn (exSs P r)
  | .frz i r, ρ => match getS ρ i with
    | .ow ds => exSs P r (ρ.set i (.fz (.list ds)))
    | _ => .bad
  | .lease i e c1 r c2 k o rest, ρ => Out.of (ev P e ρ) fun d => Out.of (ev P c1 (ρ.set i (.fz d)) >>= fun t => truD t) fun b => match b with
    | true => Out.of (ev P r (ρ.set i (.fz d))) .ret
    | false => Out.of (ev P c2 (ρ.set i (.fz d)) >>= fun t => truD t) fun b => match b with
      | true => if (leaseK d k && decide (i < ρ.length)) = true then Out.of (ev P (o.getD .non) (ρ.set i (.fz d))) fun _ => exSs P rest (ρ.set i .un) else .bad
      | false => exSs P rest (ρ.set i .un)
end
/-- the slots at the entry -/
@[simp] def ins : List Bool → List Dat → En
  | true :: ws, .list xs :: ds => .ln xs :: ins ws ds
  | _ :: ws, d :: ds => .fz d :: ins ws ds
  | [], d :: ds => .fz d :: ins [] ds
  | _, [] => []
/-- a def as a whole: n slots -/
def runF (P : Pg) (n : Nat) (lent : List Bool) (fr : Bool) (body : Ss) (ds : List Dat) : Res Dat :=
  match exSs P body (ins lent ds ++ List.replicate (n - ds.length) .un) with
  | .ret d => .ok d
  | .nx _ => if fr then .bad else .ok .none
  | .exc c x => .exc c x
  | _ => .bad
end NW
end

section
set_option maxHeartbeats 4000000
/-! Each operation over data, as a rule over the heap. -/
namespace NW
open PySem PySem.Spec PyProof.Rows L2

theorem tuple_mul_same (l : Addr) (items : Array Value) (n : Nat) (sl : Array (Option Value)) (dd : Option Addr) (x : Int) (u : Tok) (c0 : (decide (x < -(2 ^ 63)) || decide (x ≥ 2 ^ 63)) = false) (c1 : (items.isEmpty || x == 1) = true) :
    Meets (Builtin.«tuple.__mul__» ⟨[.ref l, .int x u], []⟩) (fun _ R s => s.heap.get? l = some { cls := .type "tuple", dict := dd, data := .seq items n, slots := sl } ∧
      R (.ok (.ret (Value.ref l))) s) :=
  .of_wp fun prog w A R s h => by
    obtain ⟨hp, g, d, tk, os⟩ := s
    obtain ⟨hl, h⟩ := h
    have f1 := AutoSeq1.idx_int
    wp_walk using wpAny_loadPart' hl
    repeat (first
      | (refine wpAny_ite_false (decide_eq_false (by rw [c0]; exact Bool.false_ne_true)) ?_; wp_walk using wpAny_loadPart' hl)
      | (refine wpAny_ite_true (decide_eq_true c1) ?_; wp_walk using wpAny_loadPart' hl))
    exact ⟨_, rfl, h⟩
theorem tuple_mul_none (l : Addr) (items : Array Value) (n : Nat) (sl : Array (Option Value)) (dd : Option Addr) (x : Int) (u : Tok) (c0 : (decide (x < -(2 ^ 63)) || decide (x ≥ 2 ^ 63)) = false) (c1 : (items.isEmpty || x == 1) = false) (c2 : (decide (x ≤ 0) || items.isEmpty) = true) :
    Meets (Builtin.«tuple.__mul__» ⟨[.ref l, .int x u], []⟩) (fun _ R s => s.heap.get? l = some { cls := .type "tuple", dict := dd, data := .seq items n, slots := sl } ∧
      R (.ok (.ret (Value.ref s.heap.objs.size))) { s with heap := s.heap.push { cls := Value.type "tuple", data := Data.seq #[] }, toks := s.toks }) :=
  .of_wp fun prog w A R s h => by
    obtain ⟨hp, g, d, tk, os⟩ := s
    obtain ⟨hl, h⟩ := h
    have f1 := AutoSeq1.idx_int
    wp_walk using wpAny_loadPart' hl
    repeat (first
      | (refine wpAny_ite_false (decide_eq_false (by rw [c0]; exact Bool.false_ne_true)) ?_; wp_walk using wpAny_loadPart' hl)
      | (refine wpAny_ite_false (decide_eq_false (by rw [c1]; exact Bool.false_ne_true)) ?_; wp_walk using wpAny_loadPart' hl)
      | (refine wpAny_ite_true (decide_eq_true c2) ?_; wp_walk using wpAny_loadPart' hl))
    exact ⟨_, rfl, h⟩
section
variable {X : Cx}
theorem op_repT01 : OpR X (binaryOp .Mult) (fun x y H Q => ∃ l k xs, x = .ref l ∧ y = .int k ∧ SqT X.K H l xs ∧ (k = 0 ∨ k = 1) ∧ (k = 1 ∨ xs = [] → Q (.ref l) H) ∧ (k = 0 → xs ≠ [] → ∀ p, H p = none → Q (.ref p) (upd H p (.tup [])))) := by
  intro pins s σ H x y v u Q I rx ry h
  obtain ⟨l, k, xs, rfl, rfl, hT, hk, q1, q2⟩ := h
  cases rx
  obtain ⟨t, rfl⟩ := ry
  obtain ⟨its, r, ⟨⟨cls, dd, data, sl⟩, ho, hc, n, hd⟩, hs⟩ := I.tuple hT
  simp only at hc hd
  subst hc hd
  have hle : its.length = xs.length := r.length.symm
  have c0 : (decide (k < -(2 ^ 63)) || decide (k ≥ 2 ^ 63)) = false := by
    rw [decide_eq_false (by omega), decide_eq_false (by omega)] <;> rfl
  cases hc1 : (its.toArray.isEmpty || k == 1) with
  | true =>
    refine wpAny_binaryOp_repeat_ref (T := "tuple") (U := "int") (by decide) ⟨_, ho, rfl⟩ (fun s' => typeIs_int s' k t) noFill_tuple_mul F.fills_int_mul F.slot_int_rmul repeat_tuple F.slot_int_index.lookup
      (call_meets F.slot_int_rmul (typeIs_int s k t) F.entry_int_rmul (F.args_int_rmul_2 _ _) (int_rmul_tuple k t l its.toArray n dd sl)
        ⟨ho, rfl, ⟨_, ho, rfl⟩, call_meets F.slot_tuple_mul ⟨_, ho, rfl⟩ F.entry_tuple_mul (F.args_tuple_mul_2 _ _) (tuple_mul_same l its.toArray n sl dd k t c0 hc1) ⟨ho, ?_⟩⟩)
    refine ⟨.ref l, H, I, rfl, q1 ?_⟩
    rw [Bool.or_eq_true] at hc1
    rcases hc1 with hz | hz
    · right
      cases its with
      | nil => exact List.eq_nil_of_length_eq_zero hle.symm
      | cons _ _ => cases hz
    · left
      exact eq_of_beq hz
  | false =>
    rw [Bool.or_eq_false_iff] at hc1
    have hk0 : k = 0 := by
      rcases hk with hk | hk
      · exact hk
      · rw [hk] at hc1
        exact absurd hc1.2 (by decide)
    have hne : xs ≠ [] := fun e => by
      rw [e] at hle
      have : its = [] := List.eq_nil_of_length_eq_zero hle
      rw [this] at hc1
      exact absurd hc1.1 (by decide)
    have c2 : (decide (k ≤ 0) || its.toArray.isEmpty) = true := by rw [hk0]; rfl
    refine wpAny_binaryOp_repeat_ref (T := "tuple") (U := "int") (by decide) ⟨_, ho, rfl⟩ (fun s' => typeIs_int s' k t) noFill_tuple_mul F.fills_int_mul F.slot_int_rmul repeat_tuple F.slot_int_index.lookup
      (call_meets F.slot_int_rmul (typeIs_int s k t) F.entry_int_rmul (F.args_int_rmul_2 _ _) (int_rmul_tuple k t l its.toArray n dd sl)
        ⟨ho, rfl, ⟨_, ho, rfl⟩, call_meets F.slot_tuple_mul ⟨_, ho, rfl⟩ F.entry_tuple_mul (F.args_tuple_mul_2 _ _) (tuple_mul_none l its.toArray n sl dd k t c0 (by rw [Bool.or_eq_false_iff]; exact hc1) c2) ⟨ho, ?_⟩⟩)
    refine ⟨.ref s.heap.objs.size, _, I.laid (t' := s.toks) (o := .tup []) (fun b ob q => Heap.get?_push_of_some _ q) (Nat.le_refl _) ?_, rfl, q2 hk0 hne _ (I.hok.fresh (Nat.le_refl _))⟩
    exact ⟨by simp, [], .nil, IsTup.new _ _⟩
theorem op_mul_strI : OpR X (binaryOp .Mult) (fun x y H Q => ∃ a k, x = .str a ∧ y = .int k ∧ a.length ≤ 16 ∧ 0 ≤ k ∧ k ≤ 1000 ∧ Q (.str (Txt.mul a k)) H) := by
  intro pins s σ H x y v u Q I rx ry h
  obtain ⟨a, k, rfl, rfl, h1, h2, h3, q⟩ := h
  obtain ⟨t, rfl⟩ := rx
  obtain ⟨t', rfl⟩ := ry
  exact PySem.W.KXi.mul rfl h1 (by omega) (by omega) fun t2 k2 _ _ => ⟨.str (Txt.mul a k), H, I.kept (t' := k2) fun _ _ z => z, ⟨_, rfl⟩, q⟩
end
/-- a thing that may be read here: still, or a list whose items are still -/
inductive RW (K : PySem.W.Frag) (H G : Hp) : V → Dat → Prop
  | st {v : V} {d : Dat} : Rep K G v d → RW K H G v d
  | wk {a : Addr} {vs : List V} {ds : List Dat} : SqL K H a vs → Reps K G vs ds → RW K H G (.ref a) (.list ds)
section
variable {K : PySem.W.Frag} {H G H' G' : Hp}
theorem RW.here (s : Same G H) {v : V} {d : Dat} (r : RW K H G v d) : Rep K H v d := by
  cases r with
  | st r => exact r.mono s
  | wk q r => exact .lst q (r.mono s)
theorem RW.ext (x : Ext H G H' G') {v : V} {d : Dat} (r : RW K H G v d) : RW K H' G' v d := by
  cases r with
  | st r => exact .st (r.mono x.stl)
  | wk q r => exact .wk (sqL_keep x.all q) (r.mono x.stl)
theorem RW.list (s : Same G H) {v : V} {ds : List Dat} (r : RW K H G v (.list ds)) : ∃ a vs, v = .ref a ∧ SqL K H a vs ∧ Reps K G vs ds := by
  cases r with
  | st r => cases r with | lst q r => exact ⟨_, _, rfl, sqL_keep s q, r⟩
  | wk q r => exact ⟨_, _, rfl, q, r⟩
theorem RW.tup (s : Same G H) {v : V} {ds : List Dat} (r : RW K H G v (.tuple ds)) : ∃ a vs, v = .ref a ∧ SqT K G a vs ∧ Reps K G vs ds := by
  cases r with
  | st r => cases r with | tup q r => exact ⟨_, _, rfl, q, r⟩
theorem RW.int {v : V} {i : Int} (r : RW K H G v (.int i)) : v = .int i := by
  cases r with | st r => cases r; rfl
theorem RW.str {v : V} {i : Str} (r : RW K H G v (.str i)) : v = .str i := by
  cases r with | st r => cases r; rfl
theorem RW.non {v : V} (r : RW K H G v .none) : v = .non := by
  cases r with | st r => cases r; rfl
theorem RW.bool {v : V} {b : Bool} (r : RW K H G v (.bool b)) : v = .bl b := by
  cases r with | st r => cases r; rfl
end

/-- a result that stays as it is -/
def Fin (K : PySem.W.Frag) (H G : Hp) (Q : VK) (d : Dat) : Prop := ∀ v H' G', Ext H G H' G' → Rep K G' v d → Q v H'
/-- a new list -/
def New (K : PySem.W.Frag) (H G : Hp) (Q : VK) (ds : List Dat) : Prop := ∀ a vs H' G', Ext H G H' G' → H a = none → G' a = none → H' a = some (.lst vs) → Reps K G' vs ds → Q (.ref a) H'
section
variable {K : PySem.W.Frag} {H G : Hp} {Q : VK}
theorem Fin.flat (s : Same G H) {v : V} {d : Dat} (f : Fin K H G Q d) (r : Rep K G v d) : Q v H := f v H G (Ext.refl s) r
theorem Fin.here (s : Same G H) {v : V} {d : Dat} (f : Fin K H G Q d) (r : Rep K G v d) : Q v H := f v H G (Ext.refl s) r
/-- a new tuple -/
theorem Fin.tup (s : Same G H) {vs : List V} {ds : List Dat} (f : Fin K H G Q (.tuple ds)) (r : Reps K G vs ds) (p : Addr) (np : H p = none) : Q (.ref p) (upd H p (.tup vs)) :=
  f _ _ (upd G p (.tup vs)) (Ext.made s np _) (.tup (SqT.of upd_same) (r.mono (Ext.made s np _).stl))
theorem New.lst (s : Same G H) {vs : List V} {ds : List Dat} (f : New K H G Q ds) (r : Reps K G vs ds) (p : Addr) (np : H p = none) : Q (.ref p) (upd H p (.lst vs)) :=
  f p vs _ G (Ext.laid s np _) np (s.free np) upd_same r
/-- a new list may be taken as one that stays -/
theorem New.still {ds : List Dat} (f : Fin K H G Q (.list ds)) : New K H G Q ds := fun a vs H' G' x na ng ha r => by
  have y : Ext H G H' (upd G' a (.lst vs)) := by
    refine ⟨x.all, fun b o e => ?_, fun b o e => ?_, fun b q => ?_⟩
    · have z := x.stl b o e
      rw [upd_ne (ne_of_none z ng)]; exact z
    · by_cases hb : b = a
      · subst hb; rw [upd_same] at e; rw [← e]; exact ha
      · rw [upd_ne hb] at e; exact x.sub b o e
    · by_cases hb : b = a
      · subst hb; exact .inr na
      · rw [upd_ne hb] at q; exact x.new b q
  have z : Same G' (upd G' a (.lst vs)) := fun b o e => by rw [upd_ne (ne_of_none e ng)]; exact e
  exact f _ _ _ y (.lst (SqL.of upd_same) (r.mono z))
end
/-- a binary operation by data -/
def R2D (K : PySem.W.Frag) (f : Dat → Dat → Res Dat) : R2 := fun x y H Q => ∃ G d e r, Same G H ∧ RW K H G x d ∧ RW K H G y e ∧ f d e = .ok r ∧ Fin K H G Q r
def opB (o : Bop) : Operator := match o with
  | .add => .Add
  | .sub => .Sub
  | .mul => .Mult
  | .div => .FloorDiv
  | .mod => .Mod
  | .pow => .Pow
theorem le_line {n : Nat} (h : n ≤ 1000000) : n ≤ sizeLine := by rw [sizeLine_eq]; omega
theorem lt_line {n : Nat} (h : n < 1000000) : n < sizeLine := by rw [sizeLine_eq]; omega
section
variable {X : Cx}
/-- xs + ys, wherever they stand: a new list -/
def rCatS (K : PySem.W.Frag) : R2 := fun x y H Q => ∃ l b xs zs, x = .ref l ∧ y = .ref b ∧ SqL K H l xs ∧ SqL K H b zs ∧ xs.length + zs.length ≤ sizeLine ∧
  ∀ p, H p = none → Q (.ref p) (upd H p (.lst (xs ++ zs)))
theorem op_catS : OpR X (binaryOp .Add) (rCatS X.K) := by
  intro pins s σ H x y v u Q I rx ry h
  obtain ⟨l, b, xs, zs, rfl, rfl, h1, h2, hz, q⟩ := h
  cases rx
  cases ry
  obtain ⟨us, r1, p1, _⟩ := I.list h1
  obtain ⟨ws, r2, p2, _⟩ := I.list h2
  obtain ⟨⟨c1, d1, t1, sl1⟩, e1, k1, n1, m1⟩ := p1.isList
  obtain ⟨⟨c2, d2, t2, sl2⟩, e2, k2, n2, m2⟩ := p2.isList
  simp only at k1 m1 k2 m2
  subst k1 m1 k2 m2
  have z1 := r1.length
  have z2 := r2.length
  have M := PyProof.Rows.list_addW l b us.toArray ws.toArray n1 n2 d1 d2 sl1 sl2 (by
    rw [List.size_toArray, List.size_toArray]; omega)
  refine concat_meets ⟨_, e1, rfl⟩ ⟨_, e2, rfl⟩ noFill_list_add seq_list_add
    PySem.F.slot_list_add PySem.F.entry_list_add (PySem.F.args_list_add_2 _ _) M ⟨e1, e2, ?_⟩
  have ea : us.toArray ++ ws.toArray = (us ++ ws).toArray := by simp
  rw [ea]
  exact ⟨.ref _, _, I.lnew (t' := s.toks) (r1.append r2) (by rw [List.length_append]; exact hz), rfl, q _ I.fresh⟩
theorem op_bin (o : Bop) : OpR X (binaryOp (opB o)) (R2D X.K (binD o)) := by
  intro pins s σ H x y v u Q I rx ry h
  obtain ⟨G, d, e, r, sm, rd, re, hf, fin⟩ := h
  cases o
  · -- add
    cases d <;> cases e <;> simp only [binD] at hf <;> try (cases hf; done)
    · cases hf
      have := rd.int; subst this
      have := re.int; subst this
      exact op_add pins s σ H _ _ v u Q I rx ry ⟨_, _, rfl, rfl, fin.flat sm (.int _)⟩
    · split at hf
      · cases hf
        have := rd.str; subst this
        have := re.str; subst this
        rename_i hz
        exact op_add_str pins s σ H _ _ v u Q I rx ry ⟨_, _, rfl, rfl, le_line hz, fin.flat sm (.str _)⟩
      · cases hf
    · split at hf
      · cases hf
        rename_i ds es hz
        obtain ⟨a, vs, rfl, q1, r1⟩ := rd.list sm
        obtain ⟨b, ws, rfl, q2, r2⟩ := re.list sm
        refine op_catS pins s σ H _ _ v u Q I rx ry ?_
        have z : vs.length + ws.length ≤ sizeLine := by rw [r1.length, r2.length]; exact le_line hz
        exact ⟨a, b, vs, ws, rfl, rfl, q1, q2, z, fun p np => (New.still fin).lst sm (r1.append r2) p np⟩
      · cases hf
    · split at hf
      · cases hf
        rename_i ds es hz
        obtain ⟨a, vs, rfl, q1, r1⟩ := rd.tup sm
        obtain ⟨b, ws, rfl, q2, r2⟩ := re.tup sm
        refine op_catA pins s σ H _ _ v u Q I rx ry ⟨a, b, vs, ws, rfl, rfl, sqT_keep sm q1, sqT_keep sm q2, by rw [r1.length, r2.length]; exact le_line hz, fun e => ?_, fun _ e => ?_, fun _ _ p np => fin.tup sm (r1.append r2) p np⟩
        · subst e; cases r1; exact fin.here sm (.tup q2 r2)
        · subst e; cases r2; rw [List.append_nil] at fin; exact fin.here sm (.tup q1 r1)
      · cases hf
  · cases d <;> cases e <;> simp only [binD] at hf <;> try (cases hf; done)
    cases hf
    have := rd.int; subst this
    have := re.int; subst this
    exact op_sub pins s σ H _ _ v u Q I rx ry ⟨_, _, rfl, rfl, fin.flat sm (.int _)⟩
  · cases d <;> cases e <;> simp only [binD] at hf <;> try (cases hf; done)
    rotate_left
    · split at hf
      · cases hf
        rename_i a b hz
        have := rd.str; subst this
        have := re.int; subst this
        exact op_mul_strI pins s σ H _ _ v u Q I rx ry ⟨_, _, rfl, rfl, hz.1, hz.2.1, hz.2.2, fin.flat sm (.str _)⟩
      · cases hf
    · split at hf
      · cases hf
        rename_i ds b hz
        obtain ⟨a, vs, rfl, q1, r1⟩ := rd.tup sm
        have := re.int; subst this
        refine op_repT01 pins s σ H _ _ v u Q I rx ry ⟨a, b, vs, rfl, rfl, sqT_keep sm q1, hz, fun hh => ?_, fun h0 hne p np => ?_⟩
        · rcases hh with hh | hh
          · rw [if_pos hh] at fin
            exact fin.here sm (.tup q1 r1)
          · subst hh
            cases r1
            have e : (if b = 1 then ([] : List Dat) else []) = [] := by split <;> rfl
            rw [e] at fin
            exact fin.here sm (.tup q1 .nil)
        · rw [if_neg (by omega)] at fin
          exact fin.tup sm .nil p np
      · cases hf
    split at hf
    · cases hf
      have := rd.int; subst this
      have := re.int; subst this
      rename_i hz
      exact op_mul pins s σ H _ _ v u Q I rx ry ⟨_, _, rfl, rfl, hz, fin.flat sm (.int _)⟩
    · cases hf
  · cases d <;> cases e <;> simp only [binD] at hf <;> try (cases hf; done)
    split at hf
    · cases hf
      have := rd.int; subst this
      have := re.int; subst this
      rename_i hz
      exact op_fdivN pins s σ H _ _ v u Q I rx ry ⟨_, _, rfl, rfl, hz, fin.flat sm (.int _)⟩
    · cases hf
  · cases d <;> cases e <;> simp only [binD] at hf <;> try (cases hf; done)
    split at hf
    · cases hf
      have := rd.int; subst this
      have := re.int; subst this
      rename_i hz
      exact op_modN pins s σ H _ _ v u Q I rx ry ⟨_, _, rfl, rfl, hz, fin.flat sm (.int _)⟩
    · cases hf
  · cases d <;> cases e <;> simp only [binD] at hf <;> try (cases hf; done)
    split at hf
    · cases hf
      have := rd.int; subst this
      have := re.int; subst this
      rename_i hz
      exact op_pow pins s σ H _ _ v u Q I rx ry ⟨_, _, rfl, rfl, hz, fin.flat sm (.int _)⟩
    · cases hf
end
end NW
end

section
set_option maxHeartbeats 4000000
/-! Comparisons, truth, subscripts, slices, built-ins over data. -/
namespace NW
open PySem PySem.Spec PyProof.Rows L2
section
variable {X : Cx} {pins : List (Addr × Obj)} {σ : L2.St} {H G : Hp} {s : Shared}
theorem rc_eq (I : Inv X pins σ H s) (hs : Same G H) {d e : Dat} {v w : V} {u x : Value} (A : Around) (r : Rep X.K G v d) (q : Rep X.K G w e) (ru : RelV v u) (rx : RelV w x) (hd : ndc d = true) (he : ndc e = true)
    (hu : A.units + PyData.depth d < cLine) : SeqAt.RcAt A s u x (PyData.eqv d e) := by
  have hA : A.units < cLine := Nat.lt_of_le_of_lt (Nat.le_add_right _ _) hu
  have r0 := r
  have q0 := q
  cases r with
  | non =>
    cases ru
    cases q with
    | non => cases rx; exact SeqAt.RcAt.none_none
    | bl b => cases rx; exact SeqAt.RcAt.none_bool b
    | int b => obtain ⟨t, rfl⟩ := rx; exact SeqAt.RcAt.none_int b t
    | str b => obtain ⟨t, rfl⟩ := rx; exact SeqAt.RcAt.none_str b t
    | lst q1 q2 => obtain ⟨_, _, _, e1, rfl, _, _, _, p⟩ := rep_list I hs q0 rx; exact SeqAt.RcAt.none_list p hA
    | tup q1 q2 => obtain ⟨_, _, _, e1, rfl, _, _, _, p⟩ := rep_tuple I hs q0 rx; exact SeqAt.RcAt.none_tuple p hA
    | dct _ _ => simp [ndc] at he
  | bl a =>
    cases ru
    cases q with
    | non => cases rx; exact SeqAt.RcAt.bool_none a
    | bl b => cases rx; exact SeqAt.RcAt.bool_bool a b
    | int b => obtain ⟨t, rfl⟩ := rx; exact SeqAt.RcAt.bool_int a b t
    | str b => obtain ⟨t, rfl⟩ := rx; exact SeqAt.RcAt.bool_str a b t
    | lst q1 q2 => obtain ⟨_, _, _, e1, rfl, _, _, _, p⟩ := rep_list I hs q0 rx; exact SeqAt.RcAt.bool_list a p hA
    | tup q1 q2 => obtain ⟨_, _, _, e1, rfl, _, _, _, p⟩ := rep_tuple I hs q0 rx; exact SeqAt.RcAt.bool_tuple a p hA
    | dct _ _ => simp [ndc] at he
  | int a =>
    obtain ⟨t', rfl⟩ := ru
    cases q with
    | non => cases rx; exact SeqAt.RcAt.int_none a t'
    | bl b => cases rx; exact SeqAt.RcAt.int_bool a t' b
    | int b => obtain ⟨t, rfl⟩ := rx; exact SeqAt.RcAt.int_int a t' b t
    | str b => obtain ⟨t, rfl⟩ := rx; exact SeqAt.RcAt.int_str a t' b t
    | lst q1 q2 => obtain ⟨_, _, _, e1, rfl, _, _, _, p⟩ := rep_list I hs q0 rx; exact SeqAt.RcAt.int_list a t' p hA
    | tup q1 q2 => obtain ⟨_, _, _, e1, rfl, _, _, _, p⟩ := rep_tuple I hs q0 rx; exact SeqAt.RcAt.int_tuple a t' p hA
    | dct _ _ => simp [ndc] at he
  | str a =>
    obtain ⟨t', rfl⟩ := ru
    cases q with
    | non => cases rx; exact SeqAt.RcAt.str_none a t'
    | bl b => cases rx; exact SeqAt.RcAt.str_bool a t' b
    | int b => obtain ⟨t, rfl⟩ := rx; exact SeqAt.RcAt.str_int a t' b t
    | str b => obtain ⟨t, rfl⟩ := rx; exact SeqAt.RcAt.str_str a t' b t
    | lst q1 q2 => obtain ⟨_, _, _, e1, rfl, _, _, _, p⟩ := rep_list I hs q0 rx; exact SeqAt.RcAt.str_list a t' p hA
    | tup q1 q2 => obtain ⟨_, _, _, e1, rfl, _, _, _, p⟩ := rep_tuple I hs q0 rx; exact SeqAt.RcAt.str_tuple a t' p hA
    | dct _ _ => simp [ndc] at he
  | @lst a0 vs0 ds q1 q2 =>
    obtain ⟨a, vs, us, e1, rfl, hS, rr, rv, p⟩ := rep_list I hs r0 ru
    cases q with
    | non => cases rx; exact SeqAt.RcAt.list_none p hA
    | bl b => cases rx; exact SeqAt.RcAt.list_bool b p hA
    | int b => obtain ⟨t, rfl⟩ := rx; exact SeqAt.RcAt.list_int b t p hA
    | str b => obtain ⟨t, rfl⟩ := rx; exact SeqAt.RcAt.list_str b t p hA
    | @lst a2 vs2 ds2 q1 q2 =>
      obtain ⟨b, ws, xs, e2, rfl, hS2, rr2, rv2, p2⟩ := rep_list I hs q0 rx
      have n1 : us.toArray.size = ds.length := by rw [List.size_toArray, ← rr.length, rv.length]
      have n2 : xs.toArray.size = ds2.length := by rw [List.size_toArray, ← rr2.length, rv2.length]
      have he2 : ∀ j (h1 : j < us.toArray.size) (h2 : j < xs.toArray.size), SeqAt.EqAt A.in1 s us.toArray[j] xs.toArray[j] (alike ds ds2 j) := fun j h1 h2 =>
        eqsAt_rep I hs ds ds2 vs ws us xs A.in1 rr rr2 rv rv2 (by simpa [ndc] using hd) (by simpa [ndc] using he) (by rw [in1_units]; simp only [PyData.depth] at hu; omega) j (by simpa using h1) (by simpa using h2)
      show SeqAt.RcAt A s (.ref a) (.ref b) (PyData.eqvAll ds ds2)
      by_cases hz : ds.length = ds2.length
      · rw [← alike_all ds ds2 hz, ← n1]
        exact SeqAt.RcAt.lists p p2 (by rw [n1, n2, hz]) hA he2
      · rw [eqvAll_len ds ds2 hz]
        exact SeqAt.RcAt.lists_lengths p p2 (by rw [n1, n2]; simpa using hz) hA
    | tup q1 q2 => obtain ⟨_, _, _, e2, rfl, _, _, _, p2⟩ := rep_tuple I hs q0 rx; exact SeqAt.RcAt.list_tuple p p2 hA
    | dct _ _ => simp [ndc] at he
  | @tup a0 vs0 ds q1 q2 =>
    obtain ⟨a, vs, us, e1, rfl, hS, rr, rv, p⟩ := rep_tuple I hs r0 ru
    cases q with
    | non => cases rx; exact SeqAt.RcAt.tuple_none p hA
    | bl b => cases rx; exact SeqAt.RcAt.tuple_bool b p hA
    | int b => obtain ⟨t, rfl⟩ := rx; exact SeqAt.RcAt.tuple_int b t p hA
    | str b => obtain ⟨t, rfl⟩ := rx; exact SeqAt.RcAt.tuple_str b t p hA
    | lst q1 q2 => obtain ⟨_, _, _, e2, rfl, _, _, _, p2⟩ := rep_list I hs q0 rx; exact SeqAt.RcAt.tuple_list p p2 hA
    | @tup a2 vs2 ds2 q1 q2 =>
      obtain ⟨b, ws, xs, e2, rfl, hS2, rr2, rv2, p2⟩ := rep_tuple I hs q0 rx
      have n1 : us.toArray.size = ds.length := by rw [List.size_toArray, ← rr.length, rv.length]
      have n2 : xs.toArray.size = ds2.length := by rw [List.size_toArray, ← rr2.length, rv2.length]
      have he2 : ∀ j (h1 : j < us.toArray.size) (h2 : j < xs.toArray.size), SeqAt.EqAt A.in1 s us.toArray[j] xs.toArray[j] (alike ds ds2 j) := fun j h1 h2 =>
        eqsAt_rep I hs ds ds2 vs ws us xs A.in1 rr rr2 rv rv2 (by simpa [ndc] using hd) (by simpa [ndc] using he) (by rw [in1_units]; simp only [PyData.depth] at hu; omega) j (by simpa using h1) (by simpa using h2)
      show SeqAt.RcAt A s (.ref a) (.ref b) (PyData.eqvAll ds ds2)
      rw [← alike_tup ds ds2, ← n1, ← n2]
      exact SeqAt.RcAt.tuples p p2 hA he2
    | dct _ _ => simp [ndc] at he
  | dct _ _ => simp [ndc] at hd
theorem rc_ne (I : Inv X pins σ H s) (hs : Same G H) {d e : Dat} {v w : V} {u x : Value} (A : Around) (r : Rep X.K G v d) (q : Rep X.K G w e) (ru : RelV v u) (rx : RelV w x) (hd : ndc d = true) (he : ndc e = true)
    (hu : A.units + PyData.depth d < cLine) : SeqAt.RcNeAt A s u x (!PyData.eqv d e) := by
  have hA : A.units < cLine := Nat.lt_of_le_of_lt (Nat.le_add_right _ _) hu
  have r0 := r
  have q0 := q
  cases r with
  | non =>
    cases ru
    cases q with
    | non => cases rx; exact SeqAt.RcNeAt.none_none
    | bl b => cases rx; exact SeqAt.RcNeAt.none_bool b
    | int b => obtain ⟨t, rfl⟩ := rx; exact SeqAt.RcNeAt.none_int b t
    | str b => obtain ⟨t, rfl⟩ := rx; exact SeqAt.RcNeAt.none_str b t
    | lst q1 q2 => obtain ⟨_, _, _, e1, rfl, _, _, _, p⟩ := rep_list I hs q0 rx; exact SeqAt.RcNeAt.none_list p hA
    | tup q1 q2 => obtain ⟨_, _, _, e1, rfl, _, _, _, p⟩ := rep_tuple I hs q0 rx; exact SeqAt.RcNeAt.none_tuple p hA
    | dct _ _ => simp [ndc] at he
  | bl a =>
    cases ru
    cases q with
    | non => cases rx; exact SeqAt.RcNeAt.bool_none a
    | bl b => cases rx; exact SeqAt.RcNeAt.bool_bool a b
    | int b => obtain ⟨t, rfl⟩ := rx; exact SeqAt.RcNeAt.bool_int a b t
    | str b => obtain ⟨t, rfl⟩ := rx; exact SeqAt.RcNeAt.bool_str a b t
    | lst q1 q2 => obtain ⟨_, _, _, e1, rfl, _, _, _, p⟩ := rep_list I hs q0 rx; exact SeqAt.RcNeAt.bool_list a p hA
    | tup q1 q2 => obtain ⟨_, _, _, e1, rfl, _, _, _, p⟩ := rep_tuple I hs q0 rx; exact SeqAt.RcNeAt.bool_tuple a p hA
    | dct _ _ => simp [ndc] at he
  | int a =>
    obtain ⟨t', rfl⟩ := ru
    cases q with
    | non => cases rx; exact SeqAt.RcNeAt.int_none a t'
    | bl b => cases rx; exact SeqAt.RcNeAt.int_bool a t' b
    | int b => obtain ⟨t, rfl⟩ := rx; exact SeqAt.RcNeAt.int_int a t' b t
    | str b => obtain ⟨t, rfl⟩ := rx; exact SeqAt.RcNeAt.int_str a t' b t
    | lst q1 q2 => obtain ⟨_, _, _, e1, rfl, _, _, _, p⟩ := rep_list I hs q0 rx; exact SeqAt.RcNeAt.int_list a t' p hA
    | tup q1 q2 => obtain ⟨_, _, _, e1, rfl, _, _, _, p⟩ := rep_tuple I hs q0 rx; exact SeqAt.RcNeAt.int_tuple a t' p hA
    | dct _ _ => simp [ndc] at he
  | str a =>
    obtain ⟨t', rfl⟩ := ru
    cases q with
    | non => cases rx; exact SeqAt.RcNeAt.str_none a t'
    | bl b => cases rx; exact SeqAt.RcNeAt.str_bool a t' b
    | int b => obtain ⟨t, rfl⟩ := rx; exact SeqAt.RcNeAt.str_int a t' b t
    | str b => obtain ⟨t, rfl⟩ := rx; exact SeqAt.RcNeAt.str_str a t' b t
    | lst q1 q2 => obtain ⟨_, _, _, e1, rfl, _, _, _, p⟩ := rep_list I hs q0 rx; exact SeqAt.RcNeAt.str_list a t' p hA
    | tup q1 q2 => obtain ⟨_, _, _, e1, rfl, _, _, _, p⟩ := rep_tuple I hs q0 rx; exact SeqAt.RcNeAt.str_tuple a t' p hA
    | dct _ _ => simp [ndc] at he
  | @lst a0 vs0 ds q1 q2 =>
    obtain ⟨a, vs, us, e1, rfl, hS, rr, rv, p⟩ := rep_list I hs r0 ru
    cases q with
    | non => cases rx; exact SeqAt.RcNeAt.list_none p hA
    | bl b => cases rx; exact SeqAt.RcNeAt.list_bool b p hA
    | int b => obtain ⟨t, rfl⟩ := rx; exact SeqAt.RcNeAt.list_int b t p hA
    | str b => obtain ⟨t, rfl⟩ := rx; exact SeqAt.RcNeAt.list_str b t p hA
    | @lst a2 vs2 ds2 q1 q2 =>
      obtain ⟨b, ws, xs, e2, rfl, hS2, rr2, rv2, p2⟩ := rep_list I hs q0 rx
      have n1 : us.toArray.size = ds.length := by rw [List.size_toArray, ← rr.length, rv.length]
      have n2 : xs.toArray.size = ds2.length := by rw [List.size_toArray, ← rr2.length, rv2.length]
      have he2 : ∀ j (h1 : j < us.toArray.size) (h2 : j < xs.toArray.size), SeqAt.EqAt A.in1 s us.toArray[j] xs.toArray[j] (alike ds ds2 j) := fun j h1 h2 =>
        eqsAt_rep I hs ds ds2 vs ws us xs A.in1 rr rr2 rv rv2 (by simpa [ndc] using hd) (by simpa [ndc] using he) (by rw [in1_units]; simp only [PyData.depth] at hu; omega) j (by simpa using h1) (by simpa using h2)
      show SeqAt.RcNeAt A s (.ref a) (.ref b) (!PyData.eqvAll ds ds2)
      by_cases hz : ds.length = ds2.length
      · rw [← alike_all ds ds2 hz, ← n1]
        exact SeqAt.RcNeAt.lists p p2 (by rw [n1, n2, hz]) hA he2
      · rw [eqvAll_len ds ds2 hz]
        exact SeqAt.RcNeAt.lists_lengths p p2 (by rw [n1, n2]; simpa using hz) hA
    | tup q1 q2 => obtain ⟨_, _, _, e2, rfl, _, _, _, p2⟩ := rep_tuple I hs q0 rx; exact SeqAt.RcNeAt.list_tuple p p2 hA
    | dct _ _ => simp [ndc] at he
  | @tup a0 vs0 ds q1 q2 =>
    obtain ⟨a, vs, us, e1, rfl, hS, rr, rv, p⟩ := rep_tuple I hs r0 ru
    cases q with
    | non => cases rx; exact SeqAt.RcNeAt.tuple_none p hA
    | bl b => cases rx; exact SeqAt.RcNeAt.tuple_bool b p hA
    | int b => obtain ⟨t, rfl⟩ := rx; exact SeqAt.RcNeAt.tuple_int b t p hA
    | str b => obtain ⟨t, rfl⟩ := rx; exact SeqAt.RcNeAt.tuple_str b t p hA
    | lst q1 q2 => obtain ⟨_, _, _, e2, rfl, _, _, _, p2⟩ := rep_list I hs q0 rx; exact SeqAt.RcNeAt.tuple_list p p2 hA
    | @tup a2 vs2 ds2 q1 q2 =>
      obtain ⟨b, ws, xs, e2, rfl, hS2, rr2, rv2, p2⟩ := rep_tuple I hs q0 rx
      have n1 : us.toArray.size = ds.length := by rw [List.size_toArray, ← rr.length, rv.length]
      have n2 : xs.toArray.size = ds2.length := by rw [List.size_toArray, ← rr2.length, rv2.length]
      have he2 : ∀ j (h1 : j < us.toArray.size) (h2 : j < xs.toArray.size), SeqAt.EqAt A.in1 s us.toArray[j] xs.toArray[j] (alike ds ds2 j) := fun j h1 h2 =>
        eqsAt_rep I hs ds ds2 vs ws us xs A.in1 rr rr2 rv rv2 (by simpa [ndc] using hd) (by simpa [ndc] using he) (by rw [in1_units]; simp only [PyData.depth] at hu; omega) j (by simpa using h1) (by simpa using h2)
      show SeqAt.RcNeAt A s (.ref a) (.ref b) (!PyData.eqvAll ds ds2)
      rw [← alike_tup ds ds2, ← n1, ← n2]
      exact SeqAt.RcNeAt.tuples p p2 hA he2
    | dct _ _ => simp [ndc] at he
  | dct _ _ => simp [ndc] at hd
end

/-- a comparison by data -/
def R2C (K : PySem.W.Frag) (f : Dat → Dat → Res Bool) : R2 := fun x y H Q => ∃ G d e r, Same G H ∧ RW K H G x d ∧ RW K H G y e ∧ f d e = .ok r ∧ Q (.bl r) H
def opC (o : Cop) : CmpOp := match o with
  | .eq => .Eq
  | .ne => .NotEq
  | .lt => .Lt
  | .le => .LtE
  | .gt => .Gt
  | .ge => .GtE
  | .isin => .In
  | .nin => .NotIn
  | .isN => .Is
  | .ntN => .IsNot
theorem shOk_ndc {d : Dat} (h : shOk d = true) : ndc d = true := (Bool.and_eq_true_iff.mp h).1
theorem shOk_depth {d : Dat} (h : shOk d = true) : PyData.depth d ≤ 100 := of_decide_eq_true (Bool.and_eq_true_iff.mp h).2
theorem in_any {X : Cx} {G : Hp} {x : Dat} : ∀ {ds : List Dat} {vs : List V} {us : List Value} {e : Value → Bool}, Reps X.K G vs ds → Vals vs us → (∀ (i : Nat) (d : Dat) (u : Value), ds[i]? = some d → us[i]? = some u → e u = PyData.eqv d x) → us.any e = inD x ds
  | [], _, _, _, r, q, _ => by cases r; cases q; rfl
  | d :: ds, _, _, e, r, q, h => by
    cases r with
    | cons r t =>
      cases q with
      | cons q t' =>
        show (_ || _) = (_ || _)
        rw [h 0 d _ rfl rfl, in_any t t' fun i d u h1 h2 => h (i + 1) d u h1 h2]
section
variable {X : Cx}
/-- what a value is, read off the heap: for the items of a list that is searched -/
theorem in_items {pins : List (Addr × Obj)} {σ : L2.St} {H G : Hp} {s : Shared} (I : Inv X pins σ H s) (hs : Same G H) {x : Dat} {w : V} {u : Value} {A : Around} (q : Rep X.K G w x) (ru : RelV w u) (hx : ndc x = true) :
    ∀ {ds : List Dat} {vs : List V} {us : List Value}, Reps X.K G vs ds → Vals vs us → ndcs ds = true → A.units + PyData.depthAll ds < cLine →
      ∃ e : Value → Bool, (∀ y, y ∈ us → SeqAt.EqAt A s y u (e y)) ∧ us.any e = inD x ds := by
  intro ds vs us r rv hd hu
  have key : ∀ (ds : List Dat) (vs : List V) (us : List Value), Reps X.K G vs ds → Vals vs us → ndcs ds = true → A.units + PyData.depthAll ds < cLine → ∀ y ∈ us, ∃ d ∈ ds, SeqAt.EqAt A s y u (PyData.eqv d x) ∧ ∃ v, Rep X.K G v d ∧ RelV v y ∧ ndc d = true := by
    intro ds
    induction ds with
    | nil => intro vs us r rv _ _ y hy; cases r; cases rv; cases hy
    | cons d ds ih =>
      intro vs us r rv hd hu y hy
      cases r with
      | cons r t =>
        cases rv with
        | cons r1 t1 =>
          simp only [ndcs, Bool.and_eq_true] at hd
          simp only [PyData.depthAll] at hu
          rcases List.mem_cons.mp hy with rfl | hy
          · exact ⟨d, List.mem_cons_self, eqAt_rep I hs d x _ _ _ _ A r q r1 ru hd.1 hx (by omega), _, r, r1, hd.1⟩
          · obtain ⟨d', h1, h2⟩ := ih _ _ t t1 hd.2 (by omega) y hy
            exact ⟨d', List.mem_cons_of_mem _ h1, h2⟩
  classical
  refine ⟨fun y => if h : y ∈ us then PyData.eqv (Classical.choose (key ds vs us r rv hd hu y h)) x else false, fun y hy => ?_, ?_⟩
  · simp only [hy, dite_true]
    exact (Classical.choose_spec (key ds vs us r rv hd hu y hy)).2.1
  · refine in_any r rv fun i d y h1 h2 => ?_
    have hy : y ∈ us := List.mem_of_getElem? h2
    simp only [hy, dite_true]
    obtain ⟨c1, _, v, c2, c3, c4⟩ := Classical.choose_spec (key ds vs us r rv hd hu y hy)
    obtain ⟨v', g1, g2⟩ := r.get h1
    obtain ⟨u', g3, g4⟩ := rv.get g1
    rw [h2] at g3; cases g3
    have ev := c3.inj g4
    subst ev
    have hd' : ndc d = true := by
      have z : ∀ (ds : List Dat) (i : Nat), ndcs ds = true → ds[i]? = some d → ndc d = true := by
        intro ds
        induction ds with
        | nil => intro i _ e; simp at e
        | cons a ds ih =>
          intro i hn e
          simp only [ndcs, Bool.and_eq_true] at hn
          cases i with
          | zero => simp at e; subst e; exact hn.1
          | succ i => exact ih i hn.2 (by simpa using e)
      exact z ds i hd h1
    rw [Rep.inj I hs _ _ v c2 g2 c4 hd']
theorem op_cmp {k : Nat} (hr : Room k X.A) (o : Cop) : OpR X (compareOp (opC o)) (R2C X.K (cmpD o)) := by
  intro pins s σ H x y v u Q I rx ry h
  obtain ⟨G, d, e, r, sm, rd, re, hf, q⟩ := h
  have hu100 : ∀ {d : Dat}, shOk d = true → X.A.units + PyData.depth d < cLine := fun h => by
    have := shOk_depth h
    have := hr.un
    omega
  have here : ∀ {b : Bool}, r = b → EP X pins σ Q (.bool b) s := fun e => fin_bl I q e
  cases o with
  | eq =>
    simp only [cmpD] at hf
    split at hf
    · rename_i hh
      cases hf
      have h2 := Bool.and_eq_true_iff.mp hh
      exact rc_eq I (Same.refl H) X.A (rd.here sm) (re.here sm) rx ry (shOk_ndc h2.1) (shOk_ndc h2.2) (hu100 h2.1) X.prog X.w _ _ (here rfl)
    · cases hf
  | ne =>
    simp only [cmpD] at hf
    split at hf
    · rename_i hh
      cases hf
      have h2 := Bool.and_eq_true_iff.mp hh
      exact rc_ne I (Same.refl H) X.A (rd.here sm) (re.here sm) rx ry (shOk_ndc h2.1) (shOk_ndc h2.2) (hu100 h2.1) X.prog X.w _ _ (here rfl)
    · cases hf
  | lt =>
    cases d <;> cases e <;> simp only [cmpD] at hf <;> try (cases hf; done)
    · cases hf
      have := rd.int; subst this
      have := re.int; subst this
      exact op_lt pins s σ H _ _ v u Q I rx ry ⟨_, _, rfl, rfl, q⟩
    · cases hf
      have := rd.str; subst this
      have := re.str; subst this
      exact op_lt_str pins s σ H _ _ v u Q I rx ry ⟨_, _, rfl, rfl, q⟩
  | le =>
    cases d <;> cases e <;> simp only [cmpD] at hf <;> try (cases hf; done)
    · cases hf
      have := rd.int; subst this
      have := re.int; subst this
      exact op_le pins s σ H _ _ v u Q I rx ry ⟨_, _, rfl, rfl, q⟩
    · cases hf
      have := rd.str; subst this
      have := re.str; subst this
      exact op_le_str pins s σ H _ _ v u Q I rx ry ⟨_, _, rfl, rfl, q⟩
  | gt =>
    cases d <;> cases e <;> simp only [cmpD] at hf <;> try (cases hf; done)
    · cases hf
      have := rd.int; subst this
      have := re.int; subst this
      exact op_gt pins s σ H _ _ v u Q I rx ry ⟨_, _, rfl, rfl, q⟩
    · cases hf
      have := rd.str; subst this
      have := re.str; subst this
      exact op_gt_str pins s σ H _ _ v u Q I rx ry ⟨_, _, rfl, rfl, q⟩
  | ge =>
    cases d <;> cases e <;> simp only [cmpD] at hf <;> try (cases hf; done)
    · cases hf
      have := rd.int; subst this
      have := re.int; subst this
      exact op_ge pins s σ H _ _ v u Q I rx ry ⟨_, _, rfl, rfl, q⟩
    · cases hf
      have := rd.str; subst this
      have := re.str; subst this
      exact op_ge_str pins s σ H _ _ v u Q I rx ry ⟨_, _, rfl, rfl, q⟩
  | isin =>
    obtain ⟨r0, hb, hrr⟩ : ∃ r0, inB d e = .ok r0 ∧ r = r0 := by
      simp only [cmpD] at hf
      cases hb : inB d e with
      | ok r0 => rw [hb] at hf; first | (cases hf; exact ⟨_, rfl, rfl⟩)
      | exc c x => rw [hb] at hf; cases hf
      | bad => rw [hb] at hf; cases hf
    clear hf
    cases e with
    | none => simp only [inB] at hb; cases hb
    | bool _ => simp only [inB] at hb; cases hb
    | int _ => simp only [inB] at hb; cases hb
    | dict _ => simp only [inB] at hb; cases hb
    | str b =>
      cases d <;> simp only [inB] at hb <;> try (cases hb; done)
      cases hb
      have := rd.str; subst this
      have := re.str; subst this
      rename_i a
      unfold strIn at hrr
      split at hrr
      · rename_i c hc
        refine op_in_sign pins s σ H _ _ v u Q I rx ry ⟨c, b, ?_, rfl, by rw [← hrr]; exact q⟩
        have z : a = ⟨#[c]⟩ := PySem.Str.ext' (by rw [← Array.toList_inj, hc])
        rw [z]
      · exact op_in_str pins s σ H _ _ v u Q I rx ry ⟨_, _, rfl, rfl, by rw [← hrr]; exact q⟩
    | list ds =>
      simp only [inB] at hb
      split at hb <;> cases hb
      rename_i hh
      have h2 := Bool.and_eq_true_iff.mp hh
      obtain ⟨a, vs, us, rfl, rfl, hS, rr, rv, p⟩ := rep_list I (Same.refl H) (re.here sm) ry
      have hz : X.A.in1.units + PyData.depthAll ds < cLine := by
        have := hr.un
        rw [in1_units]
        have h3 := shOk_depth h2.2
        simp only [PyData.depth] at h3
        omega
      obtain ⟨f, f1, f2⟩ := in_items (A := X.A.in1) I (Same.refl H) (rd.here sm) rx (shOk_ndc h2.1) rr rv (by have z := shOk_ndc h2.2; simpa [ndc] using z) hz
      refine SeqAt.in_listAt f p (fun y hy => f1 y (by simpa using hy)) (here ?_)
      rw [hrr, ← f2]; simp
    | tuple ds =>
      simp only [inB] at hb
      split at hb <;> cases hb
      rename_i hh
      have h2 := Bool.and_eq_true_iff.mp hh
      obtain ⟨a, vs, us, rfl, rfl, hS, rr, rv, p⟩ := rep_tuple I (Same.refl H) (re.here sm) ry
      have hz : X.A.in1.units + PyData.depthAll ds < cLine := by
        have := hr.un
        rw [in1_units]
        have h3 := shOk_depth h2.2
        simp only [PyData.depth] at h3
        omega
      obtain ⟨f, f1, f2⟩ := in_items (A := X.A.in1) I (Same.refl H) (rd.here sm) rx (shOk_ndc h2.1) rr rv (by have z := shOk_ndc h2.2; simpa [ndc] using z) hz
      refine SeqAt.in_tupleAt f p (fun y hy => f1 y (by simpa using hy)) (here ?_)
      rw [hrr, ← f2]; simp
  | nin =>
    obtain ⟨r0, hb, hrr⟩ : ∃ r0, inB d e = .ok r0 ∧ r = !r0 := by
      simp only [cmpD] at hf
      cases hb : inB d e with
      | ok r0 => rw [hb] at hf; first | (cases hf; exact ⟨_, rfl, rfl⟩)
      | exc c x => rw [hb] at hf; cases hf
      | bad => rw [hb] at hf; cases hf
    clear hf
    cases e with
    | none => simp only [inB] at hb; cases hb
    | bool _ => simp only [inB] at hb; cases hb
    | int _ => simp only [inB] at hb; cases hb
    | dict _ => simp only [inB] at hb; cases hb
    | str b =>
      cases d <;> simp only [inB] at hb <;> try (cases hb; done)
      cases hb
      have := rd.str; subst this
      have := re.str; subst this
      rename_i a
      unfold strIn at hrr
      split at hrr
      · rename_i c hc
        refine op_notIn_sign pins s σ H _ _ v u Q I rx ry ⟨c, b, ?_, rfl, by rw [← hrr]; exact q⟩
        have z : a = ⟨#[c]⟩ := PySem.Str.ext' (by rw [← Array.toList_inj, hc])
        rw [z]
      · exact op_notIn_str pins s σ H _ _ v u Q I rx ry ⟨_, _, rfl, rfl, by rw [← hrr]; exact q⟩
    | list ds =>
      simp only [inB] at hb
      split at hb <;> cases hb
      rename_i hh
      have h2 := Bool.and_eq_true_iff.mp hh
      obtain ⟨a, vs, us, rfl, rfl, hS, rr, rv, p⟩ := rep_list I (Same.refl H) (re.here sm) ry
      have hz : X.A.in1.units + PyData.depthAll ds < cLine := by
        have := hr.un
        rw [in1_units]
        have h3 := shOk_depth h2.2
        simp only [PyData.depth] at h3
        omega
      obtain ⟨f, f1, f2⟩ := in_items (A := X.A.in1) I (Same.refl H) (rd.here sm) rx (shOk_ndc h2.1) rr rv (by have z := shOk_ndc h2.2; simpa [ndc] using z) hz
      refine SeqAt.notIn_listAt f p (fun y hy => f1 y (by simpa using hy)) (here ?_)
      rw [hrr, ← f2]; simp
    | tuple ds =>
      simp only [inB] at hb
      split at hb <;> cases hb
      rename_i hh
      have h2 := Bool.and_eq_true_iff.mp hh
      obtain ⟨a, vs, us, rfl, rfl, hS, rr, rv, p⟩ := rep_tuple I (Same.refl H) (re.here sm) ry
      have hz : X.A.in1.units + PyData.depthAll ds < cLine := by
        have := hr.un
        rw [in1_units]
        have h3 := shOk_depth h2.2
        simp only [PyData.depth] at h3
        omega
      obtain ⟨f, f1, f2⟩ := in_items (A := X.A.in1) I (Same.refl H) (rd.here sm) rx (shOk_ndc h2.1) rr rv (by have z := shOk_ndc h2.2; simpa [ndc] using z) hz
      refine SeqAt.notIn_tupleAt f p (fun y hy => f1 y (by simpa using hy)) (here ?_)
      rw [hrr, ← f2]; simp
  | isN =>
    have hv : ∀ {d : Dat}, RW X.K H G x d → d ≠ .none → decide (x = V.non) = false := fun {d} r n => by
      have r' := r.here sm
      cases r' <;> first | exact absurd rfl n | rfl | (simp)
    cases e <;> (try (cases d <;> simp only [cmpD] at hf <;> cases hf; done))
    have := re.non; subst this
    by_cases hd : d = .none
    · subst hd
      have := rd.non; subst this
      simp only [cmpD] at hf
      cases hf
      exact op_isN pins s σ H _ _ v u Q I rx ry ⟨rfl, q⟩
    · have z := hv rd hd
      have e : r = false := by cases d <;> simp only [cmpD] at hf <;> first | exact absurd rfl hd | (cases hf; rfl)
      subst e
      exact op_isN pins s σ H _ _ v u Q I rx ry ⟨rfl, by rw [z]; exact q⟩
  | ntN =>
    have hv : ∀ {d : Dat}, RW X.K H G x d → d ≠ .none → decide (x = V.non) = false := fun {d} r n => by
      have r' := r.here sm
      cases r' <;> first | exact absurd rfl n | rfl | (simp)
    cases e <;> (try (cases d <;> simp only [cmpD] at hf <;> cases hf; done))
    have := re.non; subst this
    by_cases hd : d = .none
    · subst hd
      have := rd.non; subst this
      simp only [cmpD] at hf
      cases hf
      exact op_notN pins s σ H _ _ v u Q I rx ry ⟨rfl, q⟩
    · have z := hv rd hd
      have e : r = true := by cases d <;> simp only [cmpD] at hf <;> first | exact absurd rfl hd | (cases hf; rfl)
      subst e
      exact op_notN pins s σ H _ _ v u Q I rx ry ⟨rfl, by rw [z]; exact q⟩
end
end NW
end

section
set_option maxHeartbeats 4000000
/-! sorted of names: tuples of texts, the empty one among them. -/
namespace NW
open PySem PySem.Spec PyProof.Rows L2
abbrev encNm (a : List Str) : Dat := .tuple (a.map .str)
theorem alike_strs : ∀ a b : List Str, PySem.W.alikeAll (a.map PyData.str) (b.map PyData.str) = true
  | [], b => by cases b <;> simp [PySem.W.alikeAll]
  | a :: r, [] => by simp [PySem.W.alikeAll]
  | a :: r, b :: q => by
    simp only [List.map_cons, PySem.W.alikeAll, alike_strs r q, Bool.and_true]
    rfl
theorem alike_nm (a b : List Str) : PySem.W.alike (encNm a) (encNm b) = true := alike_strs a b
theorem lt_strs : ∀ a b : List Str, PyProof.Rows.lexLt PyProof.Rows.itemOrd (PySem.W.keyToksAll (a.map PyData.str)) (PySem.W.keyToksAll (b.map PyData.str)) = ltN a b
  | [], [] => PyProof.Rows.lex_irrefl _
  | [], b :: q => by
    rw [List.map_cons, PySem.W.toks_all_cons]
    exact PyProof.Rows.lex_diff (O := PyProof.Rows.itemOrd) (by simp)
  | a :: r, [] => by
    rw [List.map_cons, PySem.W.toks_all_cons]
    exact PyProof.Rows.lex_diff (O := PyProof.Rows.itemOrd) (by simp)
  | a :: r, b :: q => by
    rw [List.map_cons, List.map_cons, PySem.W.dataLt_cons rfl, lt_strs r q, PySem.W.dataLt_str]
    simp only [ltN]
    have e : PyData.eqv (.str a) (.str b) = decide (a = b) := by simp [PyData.eqv]; rfl
    rw [e]
    by_cases h : a = b
    · rw [if_pos h, if_pos (decide_eq_true h)]
    · rw [if_neg h, if_neg (by simpa using h)]
theorem lt_nm (a b : List Str) : PySem.W.dataLt (encNm a) (encNm b) = ltN a b := by
  rw [PySem.W.dataLt_tuple]
  exact lt_strs a b
theorem le_nm : PySem.W.dataLe false encNm = leN := by
  funext a b
  rw [PySem.W.dataLe_eq]
  show (!PySem.W.dataLt (encNm b) (encNm a)) = leN a b
  rw [lt_nm]
  rfl
theorem depth_nm (a : List Str) : (encNm a).depth ≤ 2 := by
  have : ∀ a : List Str, PyData.depthAll (a.map PyData.str) ≤ 1 := by
    intro a
    induction a with
    | nil => simp [PyData.depthAll]
    | cons x r ih =>
      simp only [List.map_cons, PyData.depthAll, PyData.depth]
      omega
  have := this a
  simp only [encNm, PyData.depth]
  omega
section
variable {prog : Program} {w : World} {A : Around} {E : Value → Shared → Prop} {s : Shared}
abbrev RdN (s : Shared) : Value → List Str → Prop := fun v a => ∃ as, Reads s.heap v (encNm a) as
theorem nm_firsts {M : Model} : ∀ {vs : List Value} {N : List (List Str)}, PySem.W.EachIs (RdN s) vs N →
    ∃ fs : List (Option Value), (∀ {Q : List (Option Value) → Shared → Prop}, Q fs s → wpAny M A (vs.mapM firstOfTuple') Q E s) ∧ fs.map Option.isSome = N.map fun a => !a.isEmpty
  | _, _, .nil => ⟨[], fun h => by rw [List.mapM_nil]; exact wpAny_pure h, rfl⟩
  | v :: vs, a :: N, .cons h t => by
    obtain ⟨fs, h1, h2⟩ := nm_firsts (M := M) t
    obtain ⟨as, h⟩ := h
    cases h with
    | @tuple p o xs n _ _ ho hc hd hr =>
      refine ⟨xs[0]? :: fs, fun {Q} hq => ?_, ?_⟩
      · rw [List.mapM_cons]
        refine wpAny_bind ?_
        rw [PySem.W.kas_first_eq]
        have lk : PySem.W.Looks M s.heap (typeOf (.ref p)) o.cls := (PySem.W.Looks.ld ho).andThen .now
        refine wpAny_bind (lk.here ?_)
        rw [hc, if_neg (by decide)]
        refine wpAny_bind (listItems_at ho hd (wpAny_pure ?_))
        exact wpAny_bind (h1 (Q := fun bs s' => wpAny M A (pure (xs[0]? :: bs)) Q E s') (wpAny_pure hq))
      · rw [List.map_cons, List.map_cons, h2]
        congr 1
        have hl : xs.size = a.length := by
          have := PySem.SeqAt.ReadsAll.length _ _ _ hr
          simpa using this
        cases a with
        | nil =>
          have : xs[0]? = none := by rw [Array.getElem?_eq_none]; rw [hl]; exact Nat.le_refl _
          rw [this]
          rfl
        | cons x r =>
          have h0 : 0 < xs.size := by rw [hl]; exact Nat.succ_pos _
          rw [Array.getElem?_eq_getElem h0]
          rfl
theorem nm_kind {vs : List Value} {N : List (List Str)} (e : PySem.W.EachIs (RdN s) vs N) (hn : (N.all fun a => !a.isEmpty) = false) (h2 : 2 ≤ vs.length) {M : Model} {Q : SortKind → Shared → Prop}
    (hq : Q (if (!(N.headD []).isEmpty) = true then general' else oneType') s) : wpAny M A (keyKind' vs.toArray) Q E s := by
  obtain ⟨fs, f1, f2⟩ := nm_firsts (M := M) (A := A) (E := E) e
  rw [keyKind'_eq, List.mapM_toArray, map_eq_pure_bind]
  refine wpAny_bind (wpAny_bind (f1 (wpAny_pure ?_)))
  have hall : ¬ (fs.toArray.all fun x => x.isSome) = true := by
    rw [List.all_toArray]
    have : fs.all (fun x => x.isSome) = (fs.map Option.isSome).all id := by rw [List.all_map]; rfl
    rw [this, f2, List.all_map]
    have : (N.all (id ∘ fun a => !a.isEmpty)) = false := hn
    rw [this]
    decide
  rw [if_neg hall]
  have hlen := e.length
  obtain ⟨a, N', rfl⟩ : ∃ a N', N = a :: N' := by
    cases N with
    | nil => rw [hlen] at h2; simp at h2
    | cons a N' => exact ⟨a, N', rfl⟩
  obtain ⟨f, fs', rfl⟩ : ∃ f fs', fs = f :: fs' := by
    cases fs with
    | nil => simp at f2
    | cons f fs' => exact ⟨f, fs', rfl⟩
  have hf : f.isSome = !a.isEmpty := by
    rw [List.map_cons, List.map_cons] at f2
    exact (List.cons.inj f2).1
  have h0 : (((f :: fs').toArray[0]?).bind id).isSome = !a.isEmpty := by
    rw [← hf]
    simp
  rw [h0]
  have hq' : Q (if (!a.isEmpty) = true then general' else oneType') s := hq
  cases hb : (!a.isEmpty) with
  | true =>
    rw [hb, if_pos rfl] at hq'
    rw [if_pos rfl]
    exact wpAny_pure hq'
  | false =>
    rw [hb, if_neg Bool.false_ne_true] at hq'
    rw [if_neg Bool.false_ne_true]
    rw [oneTypeOnly'_eq, List.mapM_toArray, map_eq_pure_bind]
    refine wpAny_bind (wpAny_bind (wpAny_bind (PySem.W.kas_mapM (r := Value.type "tuple") _ (fun v hv Q' hq => ?_) (wpAny_pure ?_))))
    · obtain ⟨a, _, as, r⟩ := e.left v hv
      exact (PySem.W.looks_reads r).here hq
    · obtain ⟨v, vs', rfl⟩ : ∃ v vs', vs = v :: vs' := by
        cases vs with
        | nil => simp at h2
        | cons v vs' => exact ⟨v, vs', rfl⟩
      have g1 : ((List.map (fun _ => Value.type "tuple") (v :: vs')).toArray.all fun x => x == Value.type "tuple") = true := by
        simp only [List.all_toArray, List.all_map, List.all_eq_true]
        intro _ _
        rfl
      have g0 : (List.map (fun _ => Value.type "tuple") (v :: vs')).toArray[0]? = some (Value.type "tuple") := by simp
      rw [g0]
      simp only [g1, if_true]
      exact wpAny_pure (wpAny_pure hq')
theorem tup_lt_call {Q : Value → Shared → Prop} {l b : Addr} {xs ys : Array Value} {e r : Nat → Bool} (h1 : s.heap.IsTuple l xs) (h2 : s.heap.IsTuple b ys)
    (he : ∀ j (h1 : j < xs.size) (h2 : j < ys.size), PySem.SeqAt.EqAt A.in1 s xs[j] ys[j] (e j)) (hr : ∀ j (h1 : j < xs.size) (h2 : j < ys.size), e j = false → PySem.SeqAt.RcLt A.in1 s xs[j] ys[j] (r j))
    (q : Q (.bool (PySem.SeqAt.firstLt e r (decide (xs.size < ys.size)) (List.range (min xs.size ys.size)))) s) : wpAny (model prog w) A (call (.builtin "tuple.__lt__") [.ref l, .ref b]) Q E s := by
  obtain ⟨⟨c1, d1, t1, l1⟩, a1, a2, n1, a3⟩ := id h1
  obtain ⟨⟨c2, d2, t2, l2⟩, b1, b2, n2, b3⟩ := id h2
  simp only at a2 a3 b2 b3
  subst a2 a3 b2 b3
  exact PySem.call_meets PySem.F.slot_tuple_lt ⟨_, a1, rfl⟩ PySem.F.entry_tuple_lt (PySem.F.args_tuple_lt_2 _ _) (PySem.SeqAt.tuple_ltAt l b xs ys n1 n2 d1 d2 l1 l2 e r) ⟨a1, b1, he, hr, q⟩
theorem one_lt_nm {a b : List Str} {x y : Value} {as bs : List Addr} {Q : Bool → Shared → Prop} (ra : Reads s.heap x (encNm a) as) (rb : Reads s.heap y (encNm b) bs) (hu : A.units + 10 < cLine) (hq : Q (ltN a b) s) : wpAny (model prog w) A (oneLt' true x y) Q E s := by
  have hal := alike_strs a b
  have hda : PyData.depthAll (a.map PyData.str) ≤ 1 := by
    have := depth_nm a
    simp only [encNm, PyData.depth] at this
    omega
  rw [← lt_nm, PySem.W.dataLt_tuple] at hq
  cases ra with
  | @tuple l o vs n _ _ h1 h2 h3 h4 =>
    cases rb with
    | @tuple l' o' vs' n' _ _ k1 k2 k3 k4 =>
      have n1 : vs.size = (a.map PyData.str).length := by simpa using PySem.SeqAt.ReadsAll.length _ _ _ h4
      have n2 : vs'.size = (b.map PyData.str).length := by simpa using PySem.SeqAt.ReadsAll.length _ _ _ k4
      rw [← PySem.W.firstLt_toks _ _ hal, ← n1, ← n2] at hq
      have hz : A.in1.units + min (PyData.depthAll (a.map PyData.str)) (PyData.depthAll (b.map PyData.str)) < cLine := by
        rw [in1_units]
        omega
      rw [oneLt'_eq]
      simp only [if_true]
      refine wpAny_bind (wpAny_cRoomFor (by omega) ?_)
      refine wpAny_bind (wpAny_callSpecialIfBound?_slot (T := "tuple") ⟨_, h1, h2⟩ PySem.F.slot_tuple_lt (tup_lt_call (e := PySem.SeqAt.pairEq _ _) (r := fun j => PySem.W.dataLt ((a.map PyData.str).getD j .none) ((b.map PyData.str).getD j .none)) ⟨_, h1, h2, _, h3⟩ ⟨_, k1, k2, _, k3⟩ (fun j j1 j2 => ?_) (fun j j1 j2 hj => ?_) (wpAny_truthy_bool hq)))
      · have z := PySem.W.eqAt_alikeAll _ _ A.in1 s vs.toList vs'.toList _ _ h4 k4 hal hz j (by simpa using j1) (by simpa using j2)
        simpa using z
      · have z := PySem.W.rcLt_alikeAll _ _ A.in1 s vs.toList vs'.toList _ _ h4 k4 hal hz j (by simpa using j1) (by simpa using j2) hj
        simpa using z
theorem all_alike (N : List (List Str)) : PySem.W.AllAlike (N.map encNm) := PySem.W.AllAlike.of fun a b => alike_nm a b
theorem nm_sorts {vs : List Value} {N : List (List Str)} (e : PySem.W.EachIs (RdN s) vs N) (hu : A.units + 10 < cLine) : PySem.W.SortsAt prog w A s (PySem.W.dataKind s.heap (N.map encNm)) vs := by
  have em := PySem.W.each_map (R := fun v d => ∃ as, Reads s.heap v d as) encNm e
  have inv : ∀ {v : Value} {k : List (Int ⊕ List Nat)}, (PySem.W.dataKind s.heap (N.map encNm)).keyOf v = some k → ∃ a as, Reads s.heap v (encNm a) as ∧ k = PySem.W.keyToks (encNm a) := fun {v k} h => by
    obtain ⟨d, as, hd, r, hk⟩ := PySem.W.dataKind_inv h
    obtain ⟨a, _, rfl⟩ := List.mem_map.mp hd
    exact ⟨a, as, r, hk⟩
  cases hn : (N.all fun a => !a.isEmpty) with
  | true =>
    refine PySem.W.SortsAt.data em (all_alike N) (.inl fun d hd => ?_) fun d hd => ?_
    · obtain ⟨a, ha, rfl⟩ := List.mem_map.mp hd
      have := List.all_eq_true.mp hn a ha
      cases a with
      | nil => cases this
      | cons x r => exact ⟨_, _, rfl⟩
    · obtain ⟨a, ha, rfl⟩ := List.mem_map.mp hd
      have := depth_nm a
      omega
  | false =>
    refine ⟨fun v hv => ?_, (if (!(N.headD []).isEmpty) = true then general' else oneType'), ?_, fun h2 E Q hq => nm_kind e hn h2 hq⟩
    · obtain ⟨d, hd, as, r⟩ := em.left v hv
      exact ⟨_, PySem.W.dataKind_some (all_alike N) hd r⟩
    · intro E x y ka kb Q h1 h2 hq
      obtain ⟨a, as, ra, rfl⟩ := inv h1
      obtain ⟨b, bs, rb, rfl⟩ := inv h2
      have hq' : Q (ltN a b) s := by
        rw [← lt_nm]
        exact hq
      have da := depth_nm a
      split
      · show wpAny (model prog w) A (oneLt' false x y) Q E s
        rw [← lt_nm] at hq'
        exact PySem.W.oneLt_alike (fun h => absurd h Bool.false_ne_true) ra rb (alike_nm a b) (fun z => by cases z) (by omega) hq'
      · rw [keyLt'_oneType]
        exact one_lt_nm ra rb hu hq'
end
section
variable {X : Cx}
/-- sorted(xs), xs a list of names -/
def rSortedNm (K : PySem.W.Frag) : List V → Hp → VK → Prop := fun vs H Q => ∃ (p : Addr) (xs : List V) (N : List (List Str)) (G : Hp), vs = [V.ref p] ∧ SqL K H p xs ∧ Same G H ∧ Reps K G xs (N.map encNm) ∧ N.length < 64 ∧
  ∀ ys l, Reps K G ys ((sortN N).map encNm) → H l = none → Q (.ref l) (upd H l (.lst ys))
theorem reads_strs {h : Heap} : ∀ {a : List Str} {us : List Value}, Vals (a.map V.str) us → ReadsAll h us (a.map PyData.str) []
  | [], us, r => by cases r; exact .nil
  | x :: a, us, r => by
    cases r with
    | cons h t =>
      obtain ⟨t', rfl⟩ := h
      exact .cons (as := []) (.str _ _) (reads_strs t)
theorem nm_reads {pins : List (Addr × Obj)} {σ : L2.St} {H G : Hp} {s : Shared} (I : Inv X pins σ H s) (sm : Same G H) {x : V} {v : Value} {a : List Str} (r : Rep X.K G x (encNm a)) (rv : RelV x v) : RdN s v a := by
  cases r with
  | @tup t ys _ q rr =>
    cases rv
    obtain ⟨its, r1, r2, _⟩ := I.tuple (sqT_keep sm q)
    rw [rr.strs_inv] at r1
    obtain ⟨o, h1, h2, n, h3⟩ := (show s.heap.IsTuple t its.toArray from r2)
    exact ⟨[], .tuple h1 h2 h3 (by simpa using reads_strs r1)⟩
abbrev RvN (K : PySem.W.Frag) (G : Hp) : Value → List Str → Prop := fun v a => ∃ x, RelV x v ∧ Rep K G x (encNm a)
theorem nm_each {K : PySem.W.Frag} {G : Hp} : ∀ {xs : List V} {us : List Value} {N : List (List Str)}, Reps K G xs (N.map encNm) → Vals xs us → PySem.W.EachIs (RvN K G) us N
  | [], us, N, r, v => by
    cases v
    cases N with
    | nil => exact .nil
    | cons a N => cases r
  | x :: xs, us, N, r, v => by
    cases v with
    | cons h t =>
      cases N with
      | nil => cases r
      | cons a N =>
        cases r with
        | cons r1 r2 => exact .cons ⟨x, h, r1⟩ (nm_each r2 t)
theorem nm_back {K : PySem.W.Frag} {G : Hp} : ∀ {us : List Value} {N : List (List Str)}, PySem.W.EachIs (RvN K G) us N → ∃ ys, Vals ys us ∧ Reps K G ys (N.map encNm)
  | _, _, .nil => ⟨[], .nil, .nil⟩
  | _, _, .cons ⟨x, h1, h2⟩ t => by
    obtain ⟨ys, t1, t2⟩ := nm_back t
    exact ⟨x :: ys, .cons h1 t1, .cons h2 t2⟩
theorem cr_sortedNm (hu : X.A.units + 100 < cLine) : CallR X (.builtin "sorted") (rSortedNm X.K) := by
  intro pins s σ H vs us Q I r h
  obtain ⟨p, xs, N, G, rfl, hs, sm, rr, h64, q⟩ := h
  obtain ⟨its, rv, hl, hz⟩ := I.list hs
  rw [Vals.ref1 r]
  have e := nm_each rr rv
  have er : PySem.W.EachIs (RdN s) its N := e.mono fun v a ⟨x, h1, h2⟩ => nm_reads I sm h2 h1
  have er' : PySem.W.EachIs (fun v b => ∃ as, Reads (PySem.W.sortingHeap (PySem.W.copyHeap s.heap its) (s.heap.objs.size + 1) its) v (encNm b) as) its N := er.mono fun _ _ ⟨as, r⟩ => ⟨as, PyProof.Rows.Reads.keeps (fun _ _ => PySem.W.sorting_copy_old) r⟩
  have hlen : its.length = N.length := e.length
  have out := PySem.W.sortVals_data (R := RvN X.K G) (enc := encNm) false e er' (all_alike N)
  rw [le_nm] at out
  obtain ⟨ys, y1, y2⟩ := nm_back out
  refine PySem.W.sorted_vals hl.isList (nm_sorts (s := { s with heap := PySem.W.sortingHeap (PySem.W.copyHeap s.heap its) (s.heap.objs.size + 1) its }) er' (by rw [in1_units, in1_units]; omega)) (by rw [hlen]; exact small64 h64) ?_
  obtain ⟨ep, he'⟩ := PyProof.Rows.sortedAll_at s.heap its (PySem.W.sortVals (PySem.W.dataKind (PySem.W.sortingHeap (PySem.W.copyHeap s.heap its) (s.heap.objs.size + 1) its) (N.map encNm)) false its its).toArray
  have hyl : ys.length ≤ sizeLine := by
    have := y2.length
    rw [List.length_map] at this
    rw [this]
    rw [List.length_mergeSort]
    exact small64 h64
  exact ⟨.ref _, upd H (s.heap.objs.size + 1) (.lst ys), I.laid (t' := s.toks) (fun _ _ => PyProof.Rows.sortedAll_old) (Nat.le_succ _) ⟨hyl, _, ep, y1, he'⟩, rfl, q ys _ y2 (I.hok.fresh (Nat.le_succ _))⟩
end
end NW
end

section
set_option maxHeartbeats 4000000
/-! Truth, subscripts, slices, built-ins, methods over data. -/
namespace NW
open PySem PySem.Spec PyProof.Rows L2

theorem isEmpty_reps {K : PySem.W.Frag} {G : Hp} {vs : List V} {ds : List Dat} (r : Reps K G vs ds) : vs.isEmpty = ds.isEmpty := by cases r <;> rfl
theorem tru_of {K : PySem.W.Frag} {H G : Hp} (sm : Same G H) {v : V} {d : Dat} {b : Bool} (r : RW K H G v d) (h : truD d = .ok b) : TruV K v H b := by
  cases d with
  | none => have := r.non; subst this; cases h; rfl
  | bool _ => have := r.bool; subst this; cases h; rfl
  | int _ => have := r.int; subst this; cases h; rfl
  | str s =>
    have := r.str; subst this
    simp only [truD] at h
    split at h <;> cases h
    rename_i hz
    refine ⟨le_line hz, ?_⟩
    by_cases z : s.length = 0
    · simp [z]
    · have z2 : ((s.length : Nat) : Int) ≠ 0 := by omega
      simp [z, z2]
  | list ds => obtain ⟨a, vs, rfl, q, rr⟩ := r.list sm; cases h; exact .inl ⟨vs, q, by rw [isEmpty_reps rr]⟩
  | tuple ds => obtain ⟨a, vs, rfl, q, rr⟩ := r.tup sm; cases h; exact .inr (.inl ⟨vs, sqT_keep sm q, by rw [isEmpty_reps rr]⟩)
  | dict _ => cases h
theorem ixN_len {α β : Type} {xs : List α} {ys : List β} (h : xs.length = ys.length) {i : Int} {d : β} (e : atI ys i = some d) : ∃ j, ixN xs.length i = some j ∧ ys[j]? = some d := by
  unfold atI at e
  rw [← h] at e
  cases q : ixN xs.length i with
  | none => rw [q] at e; cases e
  | some j => rw [q] at e; exact ⟨j, rfl, e⟩
theorem reps_at {K : PySem.W.Frag} {G : Hp} {vs : List V} {ds : List Dat} (r : Reps K G vs ds) {i : Int} {d : Dat} (e : atI ds i = some d) : ∃ v, atI vs i = some v ∧ Rep K G v d := by
  obtain ⟨j, h1, h2⟩ := ixN_len r.length e
  obtain ⟨v, h3, h4⟩ := r.get h2
  exact ⟨v, by unfold atI; rw [h1]; exact h3, h4⟩
section
variable {X : Cx}
theorem ix_data : IxR X (R2D X.K ixD) := by
  intro value slice pins s σ H x y v u Q I rx ry h hs
  obtain ⟨G, d, e, r, sm, rd, re, hf, fin⟩ := h
  cases d <;> cases e <;> simp only [ixD] at hf <;> try (cases hf; done)
  · split at hf
    · have := re.int; subst this
      have := rd.str; subst this
      rename_i hz
      split at hf <;> cases hf
      rename_i c hc
      exact ix_str value slice pins s σ H _ _ v u Q I rx ry ⟨_, _, c, rfl, rfl, le_line hz, hc, fin.flat sm (.str _)⟩ hs
    · cases hf
  · split at hf <;> cases hf
    rename_i i hi
    have := re.int; subst this
    obtain ⟨a, vs, rfl, q, rr⟩ := rd.list sm
    obtain ⟨w, h1, h2⟩ := reps_at rr hi
    exact ix_list value slice pins s σ H _ _ v u Q I rx ry ⟨_, _, _, w, rfl, rfl, q, h1, fin.here sm h2⟩ hs
  · split at hf <;> cases hf
    rename_i i hi
    have := re.int; subst this
    obtain ⟨a, vs, rfl, q, rr⟩ := rd.tup sm
    obtain ⟨w, h1, h2⟩ := reps_at rr hi
    exact ix_tup value slice pins s σ H _ _ v u Q I rx ry ⟨_, _, _, w, rfl, rfl, sqT_keep sm q, h1, fin.here sm h2⟩ hs
theorem cut_reps {K : PySem.W.Frag} {G : Hp} {vs : List V} {ds : List Dat} (r : Reps K G vs ds) (lo hi : Option Int) : Reps K G (cutV vs lo hi) (cutL ds lo hi) := by
  unfold cutV cutL
  rw [r.length]
  exact (r.drop _).take _
theorem cut_whole {α : Type} {xs : List α} {lo hi : Option Int} (h : HT.sIx xs.length 0 lo = 0 ∧ HT.sIx xs.length xs.length hi = xs.length) : cutL xs lo hi = xs := by
  unfold cutL
  rw [h.1, h.2]
  simp
/-- a slice by data -/
def rSlD (K : PySem.W.Frag) : V → Option Int → Option Int → Hp → VK → Prop := fun x lo hi H Q => ∃ G d r, Same G H ∧ RW K H G x d ∧ slD d lo hi = .ok r ∧ Fin K H G Q r
theorem sl_data : SlR X (rSlD X.K) := by
  intro pins s σ H x v vl vu lo hi sl Q I rx hs pl pu h
  obtain ⟨G, d, r, sm, rd, hf, fin⟩ := h
  cases d <;> simp only [slD] at hf <;> try (cases hf; done)
  · split at hf <;> cases hf
    rename_i hz
    have := rd.str; subst this
    exact sl_str pins s σ H _ v vl vu lo hi sl Q I rx hs pl pu ⟨_, rfl, le_line hz, fin.flat sm (.str _)⟩
  · cases hf
    obtain ⟨a, vs, rfl, q, rr⟩ := rd.list sm
    exact sl_list pins s σ H _ v vl vu lo hi sl Q I rx hs pl pu ⟨a, vs, rfl, q, fun p np => (New.still fin).lst sm (cut_reps rr lo hi) p np⟩
  · cases hf
    obtain ⟨a, vs, rfl, q, rr⟩ := rd.tup sm
    refine sl_tupA pins s σ H _ v vl vu lo hi sl Q I rx hs pl pu ⟨a, vs, rfl, sqT_keep sm q, fun e => ?_, fun _ p np => fin.tup sm (cut_reps rr lo hi) p np⟩
    rw [rr.length] at e
    rw [cut_whole e] at fin
    exact fin.here sm (.tup q rr)

/-! ### built-ins -/
inductive RWs (K : PySem.W.Frag) (H G : Hp) : List V → List Dat → Prop
  | nil : RWs K H G [] []
  | cons {v : V} {vs : List V} {d : Dat} {ds : List Dat} : RW K H G v d → RWs K H G vs ds → RWs K H G (v :: vs) (d :: ds)
def nmB (f : Bi) : Str := match f with
  | .len => "len"
  | .min2 => "min"
  | .max2 => "max"
  | .int => "int"
  | .str => "str"
  | .ord => "ord"
  | .tuple => "tuple"
  | .list => "list"
  | .any => "any"
  | .all => "all"
  | .min1 => "min"
  | .sorted => "sorted"
def vlB (f : Bi) : Value := match f with
  | .len => .builtin "len"
  | .min2 => .builtin "min"
  | .max2 => .builtin "max"
  | .int => .type "int"
  | .str => .type "str"
  | .ord => .builtin "ord"
  | .tuple => .type "tuple"
  | .list => .type "list"
  | .any => .builtin "any"
  | .all => .builtin "all"
  | .min1 => .builtin "min"
  | .sorted => .builtin "sorted"
theorem boot_bi (f : Bi) : bootBuiltins (nmB f) = some (vlB f) := by cases f <;> decide +kernel
/-- a call of a built-in by data -/
def rBi (K : PySem.W.Frag) (f : Bi) : List V → Hp → VK → Prop := fun vs H Q => ∃ G ds r, Same G H ∧ RWs K H G vs ds ∧ biD f ds = .ok r ∧ Fin K H G Q r
theorem rws1 {K : PySem.W.Frag} {H G : Hp} {vs : List V} {d : Dat} (r : RWs K H G vs [d]) : ∃ v, vs = [v] ∧ RW K H G v d := by
  cases r with | cons r t => cases t; exact ⟨_, rfl, r⟩
theorem rws2 {K : PySem.W.Frag} {H G : Hp} {vs : List V} {d e : Dat} (r : RWs K H G vs [d, e]) : ∃ v w, vs = [v, w] ∧ RW K H G v d ∧ RW K H G w e := by
  cases r with | cons r t => obtain ⟨w, rfl, q⟩ := rws1 t; exact ⟨_, _, rfl, r, q⟩
theorem biD1 {f : Bi} {ds : List Dat} {r : Dat} (h : biD f ds = .ok r) : (∃ d, ds = [d]) ∨ (∃ d e, ds = [d, e]) := by
  cases f <;> (rcases ds with _ | ⟨a, _ | ⟨b, _ | ⟨c, t⟩⟩⟩) <;> first | exact .inl ⟨_, rfl⟩ | exact .inr ⟨_, _, rfl⟩ | (simp only [biD] at h; cases h; done) | (simp [biD] at h; done)
theorem strsD_some : ∀ {ds : List Dat} {ys : List Str}, strsD ds = some ys → ds = ys.map PyData.str
  | [], ys, h => by cases h; rfl
  | d :: ds, ys, h => by
    cases d <;> simp only [strsD] at h <;> try (cases h; done)
    cases q : strsD ds with
    | none => rw [q] at h; cases h
    | some zs => rw [q] at h; cases h; rw [strsD_some q]; rfl
theorem intsD_some : ∀ {ds : List Dat} {ys : List Int}, intsD ds = some ys → ds = ys.map PyData.int
  | [], ys, h => by cases h; rfl
  | d :: ds, ys, h => by
    cases d <;> simp only [intsD] at h <;> try (cases h; done)
    cases q : intsD ds with
    | none => rw [q] at h; cases h
    | some zs => rw [q] at h; cases h; rw [intsD_some q]; rfl
theorem boolsD_some : ∀ {ds : List Dat} {ys : List Bool}, boolsD ds = some ys → ds = ys.map PyData.bool
  | [], ys, h => by cases h; rfl
  | d :: ds, ys, h => by
    cases d <;> simp only [boolsD] at h <;> try (cases h; done)
    cases q : boolsD ds with
    | none => rw [q] at h; cases h
    | some zs => rw [q] at h; cases h; rw [boolsD_some q]; rfl
theorem reps_bools {K : PySem.W.Frag} {G : Hp} : ∀ {bs : List Bool} {vs : List V}, Reps K G vs (bs.map PyData.bool) → vs = bs.map V.bl
  | [], vs, h => by cases h; rfl
  | b :: bs, vs, h => by
    cases h with
    | cons r t => cases r; rw [reps_bools t]; rfl
theorem reps_ints_inv {K : PySem.W.Frag} {G : Hp} : ∀ {bs : List Int} {vs : List V}, Reps K G vs (bs.map PyData.int) → vs = bs.map V.int
  | [], vs, h => by cases h; rfl
  | b :: bs, vs, h => by
    cases h with
    | cons r t => cases r; rw [reps_ints_inv t]; rfl
theorem minL_mem : ∀ (r : List Int) (n : Int), minL n r ∈ n :: r
  | [], n => by simp [minL]
  | b :: r, n => by
    have e : minL n (b :: r) = minL (if b < n then b else n) r := rfl
    rw [e]
    have z := minL_mem r (if b < n then b else n)
    by_cases hb : b < n
    · rw [if_pos hb] at z ⊢
      simp only [List.mem_cons] at z ⊢
      rcases z with z | z
      · exact .inr (.inl z)
      · exact .inr (.inr z)
    · rw [if_neg hb] at z ⊢
      simp only [List.mem_cons] at z ⊢
      rcases z with z | z
      · exact .inl z
      · exact .inr (.inr z)
theorem minL_le : ∀ (r : List Int) (n : Int), minL n r ≤ n ∧ ∀ y ∈ r, minL n r ≤ y
  | [], n => by simp [minL]
  | b :: r, n => by
    have e : minL n (b :: r) = minL (if b < n then b else n) r := rfl
    rw [e]
    obtain ⟨h1, h2⟩ := minL_le r (if b < n then b else n)
    have h3 : (if b < n then b else n) ≤ n ∧ (if b < n then b else n) ≤ b := by split <;> omega
    refine ⟨by omega, fun y hy => ?_⟩
    simp only [List.mem_cons] at hy
    rcases hy with rfl | hy
    · omega
    · exact h2 y hy
theorem ltCps_iff : ∀ a b : List Nat, ltCps a b = true ↔ a < b
  | [], [] => by simp [ltCps]
  | [], _ :: _ => by simp [ltCps]
  | _ :: _, [] => by simp [ltCps]
  | x :: a, y :: b => by
    rw [List.cons_lt_cons_iff, ← ltCps_iff a b]
    simp [ltCps]
theorem leS_iff (a b : Str) : leS a b = true ↔ a.cps.toList ≤ b.cps.toList := by
  unfold leS
  rw [← List.not_lt, ← ltCps_iff]
  simp
theorem leS_trans (a b c : Str) (h1 : leS a b = true) (h2 : leS b c = true) : leS a c = true := by
  rw [leS_iff] at *
  exact List.le_trans h1 h2
theorem leS_total (a b : Str) : (leS a b || leS b a) = true := by
  rw [Bool.or_eq_true, leS_iff, leS_iff]
  exact List.le_total _ _
theorem leS_anti (a b : Str) (h1 : leS a b = true) (h2 : leS b a = true) : a = b := by
  rw [leS_iff] at *
  have := List.le_antisymm h1 h2
  cases a; cases b
  simp at this
  simp [this]
theorem rising_pair : ∀ (r : List Str) (x : Str), PyProof.Rows.risingS x r = true → (x :: r).Pairwise (fun a b => leS a b = true)
  | [], x, _ => by simp
  | y :: r, x, h => by
    rw [PyProof.Rows.risingS] at h
    rw [Bool.and_eq_true] at h
    have z := rising_pair r y h.2
    have h1 : leS x y = true := h.1
    rw [List.pairwise_cons] at z ⊢
    refine ⟨fun a ha => ?_, by rw [List.pairwise_cons]; exact z⟩
    simp only [List.mem_cons] at ha
    rcases ha with rfl | ha
    · exact h1
    · exact leS_trans _ _ _ h1 (z.1 a ha)
theorem sortStr_pair (xs : List Str) : (sortStr xs).Pairwise (fun a b => leS a b = true) := List.pairwise_mergeSort leS_trans leS_total xs
theorem sortStr_perm (xs : List Str) : (sortStr xs).Perm xs := List.mergeSort_perm xs leS
theorem sortStr_uniq (xs ys : List Str) (h : ys.Perm xs) (s : PyProof.Rows.sortedS ys = true) : ys = sortStr xs := by
  have p : ys.Pairwise (fun a b => leS a b = true) := by
    cases ys with
    | nil => exact List.Pairwise.nil
    | cons y ys => exact rising_pair ys y s
  exact List.Perm.eq_of_pairwise (fun a b _ _ => leS_anti a b) p (sortStr_pair xs) (h.trans (sortStr_perm xs).symm)
theorem namesD_some : ∀ {ds : List Dat} {N : List (List Str)}, namesD ds = some N → ds = N.map encNm
  | [], N, h => by simp only [namesD] at h; cases h; rfl
  | d :: ds, N, h => by
    cases d <;> simp only [namesD] at h <;> try (cases h; done)
    rename_i xs
    cases q : strsD xs with
    | none => rw [q] at h; cases h
    | some a =>
      rw [q] at h
      simp only at h
      cases q2 : namesD ds with
      | none => rw [q2] at h; cases h
      | some M =>
        rw [q2] at h
        cases h
        rw [namesD_some q2, strsD_some q]
        rfl
theorem call_bi (hc : X.calm = true) (hu : X.A.units + 100 < cLine) (f : Bi) : CallR X (vlB f) (rBi X.K f) := by
  intro pins s σ H xs us Q I r h
  obtain ⟨G, ds, d, sm, rs, hf, fin⟩ := h
  cases f with
  | len =>
    rcases biD1 hf with ⟨a, rfl⟩ | ⟨a, b, rfl⟩
    · obtain ⟨v, rfl, rv⟩ := rws1 rs
      cases a <;> simp only [biD] at hf <;> try (cases hf; done)
      · split at hf <;> cases hf
        rename_i hz
        have := rv.str; subst this
        exact call_len pins s σ H _ us Q I r ⟨_, _, rfl, ⟨le_line hz, rfl⟩, fin.flat sm (.int _)⟩
      · cases hf
        obtain ⟨p, vs, rfl, q, rr⟩ := rv.list sm
        rw [← rr.length] at fin
        exact call_len pins s σ H _ us Q I r ⟨_, vs.length, rfl, .inl ⟨vs, q, rfl⟩, fin.flat sm (.int _)⟩
      · cases hf
        obtain ⟨p, vs, rfl, q, rr⟩ := rv.tup sm
        rw [← rr.length] at fin
        exact call_len pins s σ H _ us Q I r ⟨_, vs.length, rfl, .inr ⟨vs, sqT_keep sm q, rfl⟩, fin.flat sm (.int _)⟩
    · cases a <;> simp only [biD] at hf <;> cases hf
  | min2 =>
    rcases biD1 hf with ⟨a, rfl⟩ | ⟨a, b, rfl⟩
    · cases a <;> simp only [biD] at hf <;> cases hf
    · cases a <;> cases b <;> simp only [biD] at hf <;> try (cases hf; done)
      cases hf
      obtain ⟨v, w, rfl, r1, r2⟩ := rws2 rs
      have := r1.int; subst this
      have := r2.int; subst this
      exact call_min2 hc pins s σ H _ us Q I r ⟨_, _, rfl, fin.flat sm (.int _)⟩
  | max2 =>
    rcases biD1 hf with ⟨a, rfl⟩ | ⟨a, b, rfl⟩
    · cases a <;> simp only [biD] at hf <;> cases hf
    · cases a <;> cases b <;> simp only [biD] at hf <;> try (cases hf; done)
      cases hf
      obtain ⟨v, w, rfl, r1, r2⟩ := rws2 rs
      have := r1.int; subst this
      have := r2.int; subst this
      exact call_max2 hc pins s σ H _ us Q I r ⟨_, _, rfl, fin.flat sm (.int _)⟩
  | int =>
    rcases biD1 hf with ⟨a, rfl⟩ | ⟨a, b, rfl⟩
    · cases a <;> simp only [biD] at hf <;> try (cases hf; done)
      · cases hf
        obtain ⟨v, rfl, rv⟩ := rws1 rs
        have hv : v = .bl _ := RW.bool rv
        subst hv
        exact call_int1 pins s σ H _ us Q I r (.inr ⟨_, rfl, fin.flat sm (.int _)⟩)
      split at hf
      · rename_i n hn
        split at hf <;> cases hf
        rename_i hz
        obtain ⟨v, rfl, rv⟩ := rws1 rs
        have := rv.str; subst this
        exact call_int_str pins s σ H _ us Q I r ⟨_, _, rfl, hn, hz, fin.flat sm (.int _)⟩
      · cases hf
    · cases a <;> simp only [biD] at hf <;> cases hf
  | str =>
    rcases biD1 hf with ⟨a, rfl⟩ | ⟨a, b, rfl⟩
    · cases a <;> simp only [biD] at hf <;> try (cases hf; done)
      split at hf <;> cases hf
      rename_i hz
      obtain ⟨v, rfl, rv⟩ := rws1 rs
      have := rv.int; subst this
      exact call_str_int pins s σ H _ us Q I r ⟨_, rfl, hz, fin.flat sm (.str _)⟩
    · cases a <;> simp only [biD] at hf <;> cases hf
  | ord =>
    rcases biD1 hf with ⟨a, rfl⟩ | ⟨a, b, rfl⟩
    · cases a <;> simp only [biD] at hf <;> try (cases hf; done)
      split at hf <;> cases hf
      rename_i hz
      obtain ⟨v, rfl, rv⟩ := rws1 rs
      have := rv.str; subst this
      exact call_ord pins s σ H _ us Q I r ⟨_, rfl, hz, fin.flat sm (.int _)⟩
    · cases a <;> simp only [biD] at hf <;> cases hf
  | tuple =>
    rcases biD1 hf with ⟨a, rfl⟩ | ⟨a, b, rfl⟩
    · obtain ⟨v, rfl, rv⟩ := rws1 rs
      cases a <;> simp only [biD] at hf <;> try (cases hf; done)
      · cases hf
        obtain ⟨p, vs, rfl, q, rr⟩ := rv.list sm
        exact call_tuple_of pins s σ H _ us Q I r ⟨_, vs, rfl, .inl ⟨q, fun l nl => fin.tup sm rr l nl⟩⟩
      · cases hf
        obtain ⟨p, vs, rfl, q, rr⟩ := rv.tup sm
        exact call_tuple_of pins s σ H _ us Q I r ⟨_, vs, rfl, .inr ⟨sqT_keep sm q, fin.here sm (.tup q rr)⟩⟩
    · cases a <;> simp only [biD] at hf <;> cases hf
  | list =>
    rcases biD1 hf with ⟨a, rfl⟩ | ⟨a, b, rfl⟩
    · obtain ⟨v, rfl, rv⟩ := rws1 rs
      cases a <;> simp only [biD] at hf <;> try (cases hf; done)
      · cases hf
        obtain ⟨p, vs, rfl, q, rr⟩ := rv.list sm
        exact call_list_of pins s σ H _ us Q I r ⟨_, vs, rfl, .inl q, fun l nl => (New.still fin).lst sm rr l nl⟩
      · cases hf
        obtain ⟨p, vs, rfl, q, rr⟩ := rv.tup sm
        exact call_list_of pins s σ H _ us Q I r ⟨_, vs, rfl, .inr (sqT_keep sm q), fun l nl => (New.still fin).lst sm rr l nl⟩
    · cases a <;> simp only [biD] at hf <;> cases hf
  | any =>
    rcases biD1 hf with ⟨a, rfl⟩ | ⟨a, b, rfl⟩
    · cases a <;> simp only [biD] at hf <;> try (cases hf; done)
      unfold anyD at hf
      split at hf <;> cases hf
      rename_i bs hb
      obtain ⟨v, rfl, rv⟩ := rws1 rs
      obtain ⟨p, vs, rfl, q, rr⟩ := rv.list sm
      rw [boolsD_some hb] at rr
      rw [reps_bools rr] at q
      exact cr_any hc pins s σ H _ us Q I r ⟨p, bs, rfl, q, fin.flat sm (.bl _)⟩
    · cases a <;> simp only [biD] at hf <;> cases hf
  | all =>
    rcases biD1 hf with ⟨a, rfl⟩ | ⟨a, b, rfl⟩
    · cases a <;> simp only [biD] at hf <;> try (cases hf; done)
      unfold allD at hf
      split at hf <;> cases hf
      rename_i bs hb
      obtain ⟨v, rfl, rv⟩ := rws1 rs
      obtain ⟨p, vs, rfl, q, rr⟩ := rv.list sm
      rw [boolsD_some hb] at rr
      rw [reps_bools rr] at q
      exact cr_all hc pins s σ H _ us Q I r ⟨p, bs, rfl, q, fin.flat sm (.bl _)⟩
    · cases a <;> simp only [biD] at hf <;> cases hf
  | min1 =>
    rcases biD1 hf with ⟨a, rfl⟩ | ⟨a, b, rfl⟩
    · cases a <;> simp only [biD] at hf <;> try (cases hf; done)
      unfold minD at hf
      split at hf <;> cases hf
      rename_i n ns hb
      obtain ⟨v, rfl, rv⟩ := rws1 rs
      obtain ⟨p, vs, rfl, q, rr⟩ := rv.list sm
      rw [intsD_some hb] at rr
      rw [reps_ints_inv rr] at q
      refine cr_min hc pins s σ H _ us Q I r ⟨p, n :: ns, rfl, q, by simp, fun m hm hl => ?_⟩
      have e : m = minL n ns := by
        have h1 := hl _ (minL_mem ns n)
        obtain ⟨h2, h3⟩ := minL_le ns n
        simp only [List.mem_cons] at hm
        rcases hm with rfl | hm
        · omega
        · have := h3 m hm
          omega
      rw [e]
      exact fin.flat sm (.int _)
    · cases a <;> simp only [biD] at hf <;> cases hf
  | sorted =>
    rcases biD1 hf with ⟨a, rfl⟩ | ⟨a, b, rfl⟩
    · cases a <;> simp only [biD] at hf <;> try (cases hf; done)
      unfold sortD at hf
      split at hf
      · rename_i xs hx
        split at hf <;> cases hf
        rename_i hz
        obtain ⟨v, rfl, rv⟩ := rws1 rs
        obtain ⟨p, vs, rfl, q, rr⟩ := rv.list sm
        rw [strsD_some hx] at rr
        rw [rr.strs_inv] at q
        refine cr_sortedS pins s σ H _ us Q I r ⟨p, xs, rfl, q, hz, fun ys l hp hs nl => ?_⟩
        rw [sortStr_uniq xs ys hp hs]
        exact (New.still fin).lst sm (Reps.strs _) l nl
      · unfold sortND at hf
        split at hf
        · rename_i N hx
          split at hf <;> cases hf
          rename_i hz
          obtain ⟨v, rfl, rv⟩ := rws1 rs
          obtain ⟨p, vs, rfl, q, rr⟩ := rv.list sm
          rw [namesD_some hx] at rr
          exact cr_sortedNm hu pins s σ H _ us Q I r ⟨p, vs, N, G, rfl, q, sm, rr, hz, fun ys l ry nl => (New.still fin).lst sm ry l nl⟩
        · cases hf
    · cases a <;> simp only [biD] at hf <;> cases hf
/-- list(x) as a list of one's own -/
def rListN (K : PySem.W.Frag) : List V → Hp → VK → Prop := fun vs H Q => ∃ G d ds, Same G H ∧ RWs K H G vs [d] ∧ biD .list [d] = .ok (.list ds) ∧ New K H G Q ds
theorem call_listN : CallR X (.type "list") (rListN X.K) := by
  intro pins s σ H xs us Q I r h
  obtain ⟨G, d, ds, sm, rs, hf, fin⟩ := h
  obtain ⟨v, rfl, rv⟩ := rws1 rs
  cases d <;> simp only [biD] at hf <;> try (cases hf; done)
  · cases hf
    obtain ⟨p, vs, rfl, q, rr⟩ := rv.list sm
    exact call_list_of pins s σ H _ us Q I r ⟨_, vs, rfl, .inl q, fun l nl => fin.lst sm rr l nl⟩
  · cases hf
    obtain ⟨p, vs, rfl, q, rr⟩ := rv.tup sm
    exact call_list_of pins s σ H _ us Q I r ⟨_, vs, rfl, .inr (sqT_keep sm q), fun l nl => fin.lst sm rr l nl⟩

/-- sorted(x) as a list of one's own -/
def rSortN (K : PySem.W.Frag) : List V → Hp → VK → Prop := fun vs H Q => ∃ G d ds, Same G H ∧ RWs K H G vs [d] ∧ biD .sorted [d] = .ok (.list ds) ∧ New K H G Q ds
theorem call_sortedN (hc : X.calm = true) (hu : X.A.units + 100 < cLine) : CallR X (.builtin "sorted") (rSortN X.K) := by
  intro pins s σ H xs us Q I r h
  obtain ⟨G, d, ds, sm, rs, hf, fin⟩ := h
  obtain ⟨v, rfl, rv⟩ := rws1 rs
  cases d <;> simp only [biD] at hf <;> try (cases hf; done)
  unfold sortD at hf
  split at hf
  · rename_i xs hx
    split at hf <;> cases hf
    rename_i hz
    obtain ⟨p, vs, rfl, q, rr⟩ := rv.list sm
    rw [strsD_some hx] at rr
    rw [rr.strs_inv] at q
    refine cr_sortedS pins s σ H _ us Q I r ⟨p, xs, rfl, q, hz, fun ys l hp hs nl => ?_⟩
    rw [sortStr_uniq xs ys hp hs]
    exact fin.lst sm (Reps.strs _) l nl
  · unfold sortND at hf
    split at hf
    · rename_i N hx
      split at hf <;> cases hf
      rename_i hz
      obtain ⟨p, vs, rfl, q, rr⟩ := rv.list sm
      rw [namesD_some hx] at rr
      exact cr_sortedNm hu pins s σ H _ us Q I r ⟨p, vs, N, G, rfl, q, sm, rr, hz, fun ys l ry nl => fin.lst sm ry l nl⟩
    · cases hf

/-! ### isinstance -/
def nmT (t : Ty) : String := match t with
  | .int => "int"
  | .str => "str"
  | .bool => "bool"
  | .tuple => "tuple"
  | .list => "list"
theorem boot_ty (t : Ty) : bootBuiltins (PySem.Str.ofString (nmT t)) = some (.type (nmT t)) := by cases t <;> decide +kernel
theorem tyX_list {K : PySem.W.Frag} {H : Hp} {a : Addr} {vs : List V} (h : SqL K H a vs) : TyX K H (.ref a) (.type "list") := by
  rcases h with (h | ⟨o, h⟩) | ⟨o, its, n, h, c, _⟩
  · exact .base (.lst h)
  · exact .base (.frz h)
  · exact .kList h c
theorem tyX_tup {K : PySem.W.Frag} {H : Hp} {a : Addr} {vs : List V} (h : SqT K H a vs) : TyX K H (.ref a) (.type "tuple") := by
  rcases h with (h | ⟨o, h⟩) | ⟨o, its, n, h, c, _⟩
  · exact .base (.tup h)
  · exact .fTuple h
  · exact .kTuple h c
def rIsiD (K : PySem.W.Frag) (t : Ty) : List V → Hp → VK → Prop := fun vs H Q => ∃ G d v r, Same G H ∧ vs = [v, .ty (nmT t)] ∧ RW K H G v d ∧ isiD t d = .ok r ∧ Q (.bl r) H
theorem call_isiD (t : Ty) : CallR X (.builtin "isinstance") (rIsiD X.K t) := by
  intro pins s σ H xs us Q I r h
  obtain ⟨G, d, v, b, sm, rfl, rv, hf, q⟩ := h
  have key : ∃ T, TyX X.K H v (.type T) ∧ kitB T (nmT t) = some b := by
    cases d with
    | none => have := rv.non; subst this; refine ⟨_, .base .non, ?_⟩; cases t <;> simp only [isiD] at hf <;> cases hf <;> decide +kernel
    | bool x => have := rv.bool; subst this; refine ⟨_, .base (.bl _), ?_⟩; cases t <;> simp only [isiD] at hf <;> cases hf <;> decide +kernel
    | int x => have := rv.int; subst this; refine ⟨_, .base (.int _), ?_⟩; cases t <;> simp only [isiD] at hf <;> cases hf <;> decide +kernel
    | str x => have := rv.str; subst this; refine ⟨_, .base (.str _), ?_⟩; cases t <;> simp only [isiD] at hf <;> cases hf <;> decide +kernel
    | list x => obtain ⟨a, vs, rfl, q, _⟩ := rv.list sm; refine ⟨_, tyX_list q, ?_⟩; cases t <;> simp only [isiD] at hf <;> cases hf <;> decide +kernel
    | tuple x => obtain ⟨a, vs, rfl, q, _⟩ := rv.tup sm; refine ⟨_, tyX_tup (sqT_keep sm q), ?_⟩; cases t <;> simp only [isiD] at hf <;> cases hf <;> decide +kernel
    | dict x => cases t <;> simp only [isiD] at hf <;> cases hf
  obtain ⟨T, h1, h2⟩ := key
  exact call_isi pins s σ H _ us Q I r ⟨v, .ty (nmT t), .type T, .type (nmT t), b, rfl, .ty _, h1, kit_ty h2, q⟩

/-! ### methods of texts -/
def nm0 (m : M0) : Str := match m with
  | .lower => "lower"
  | .upper => "upper"
def id0 (m : M0) : String := match m with
  | .lower => "str.lower"
  | .upper => "str.upper"
theorem slot0 (m : M0) : Slot "str" (nm0 m) (id0 m) := by
  cases m
  · exact F.slot_str_lower
  · exact F.slot_str_upper
theorem type0 (m : M0) : typeOf (.builtin (id0 m)) = pure (.type "method_descriptor") := by
  cases m
  · exact F.type_str_lower
  · exact F.type_str_upper
def rM0 (K : PySem.W.Frag) (m : M0) : V → List V → Hp → VK → Prop := fun x xs H Q => xs = [] ∧ ∃ G d r, Same G H ∧ RW K H G x d ∧ m0D m d = .ok r ∧ Fin K H G Q r
theorem small_case {n : Nat} (h : n ≤ 1000000) : n ≤ 5592405 := by omega
theorem mt0_data (m : M0) : MtR X (id0 m) (rM0 X.K m) := by
  intro pins s σ H x xs v us Q I rx rs h
  obtain ⟨rfl, G, d, r, sm, rd, hf, fin⟩ := h
  cases m <;> (cases d <;> simp only [m0D] at hf <;> try (cases hf; done))
  · split at hf <;> cases hf
    rename_i hz
    have := rd.str; subst this
    exact mt_lower pins s σ H _ _ v us Q I rx rs ⟨_, rfl, rfl, small_case hz, fin.flat sm (.str _)⟩
  · split at hf <;> cases hf
    rename_i hz
    have := rd.str; subst this
    exact mt_upper pins s σ H _ _ v us Q I rx rs ⟨_, rfl, rfl, small_case hz, fin.flat sm (.str _)⟩
def nm1 (m : M1) : Str := match m with
  | .startswith => "startswith"
  | .endswith => "endswith"
  | .split => "split"
  | .join => "join"
  | .index => "index"
  | .rstrip => "rstrip"
  | .find => "find"
def id1 (m : M1) : String := match m with
  | .startswith => "str.startswith"
  | .endswith => "str.endswith"
  | .split => "str.split"
  | .join => "str.join"
  | .index => "str.index"
  | .rstrip => "str.rstrip"
  | .find => "str.find"
theorem slot1 (m : M1) : Slot "str" (nm1 m) (id1 m) := by
  cases m
  · exact F.slot_str_startswith
  · exact F.slot_str_endswith
  · exact F.slot_str_split
  · exact F.slot_str_join
  · exact F.slot_str_index
  · exact F.slot_str_rstrip
  · exact F.slot_str_find
theorem type1 (m : M1) : typeOf (.builtin (id1 m)) = pure (.type "method_descriptor") := by
  cases m
  · exact F.type_str_startswith
  · exact F.type_str_endswith
  · exact F.type_str_split
  · exact F.type_str_join
  · exact F.type_str_index
  · exact F.type_str_rstrip
  · exact F.type_str_find
def rM1 (K : PySem.W.Frag) (m : M1) : V → List V → Hp → VK → Prop := fun x xs H Q => ∃ G d y e r, Same G H ∧ xs = [y] ∧ RW K H G x d ∧ RW K H G y e ∧ m1D m d e = .ok r ∧ Fin K H G Q r
/-- s.split(t) as a list of one's own -/
def rSplitN (K : PySem.W.Frag) : V → List V → Hp → VK → Prop := fun x xs H Q => ∃ G a b, Same G H ∧ x = .str a ∧ xs = [.str b] ∧ b.length ≠ 0 ∧ a.length ≤ 1000000 ∧ New K H G Q ((Txt.split a b).map PyData.str)
theorem mt_splitN : MtR X "str.split" (rSplitN X.K) := by
  intro pins s σ H x xs v us Q I rx rs h
  obtain ⟨G, a, b, sm, rfl, rfl, hb, hz, fin⟩ := h
  refine mt_split pins s σ H _ _ v us Q I rx rs ⟨a, b, rfl, rfl, by simpa using hb, by rw [sizeLine_eq]; omega, fun p np => ?_⟩
  exact fin.lst sm (Reps.strs _) p np
theorem mt1_data (m : M1) : MtR X (id1 m) (rM1 X.K m) := by
  intro pins s σ H x xs v us Q I rx rs h
  obtain ⟨G, d, y, e, r, sm, rfl, rd, re, hf, fin⟩ := h
  cases m with
  | startswith =>
    cases d <;> cases e <;> simp only [m1D] at hf <;> try (cases hf; done)
    cases hf
    have := rd.str; subst this
    have := re.str; subst this
    exact mt_startswith pins s σ H _ _ v us Q I rx rs ⟨_, _, rfl, rfl, fin.flat sm (.bl _)⟩
  | endswith =>
    cases d <;> cases e <;> simp only [m1D] at hf <;> try (cases hf; done)
    cases hf
    have := rd.str; subst this
    have := re.str; subst this
    exact mt_endswith pins s σ H _ _ v us Q I rx rs ⟨_, _, rfl, rfl, fin.flat sm (.bl _)⟩
  | split =>
    cases d <;> cases e <;> simp only [m1D] at hf <;> try (cases hf; done)
    split at hf <;> cases hf
    rename_i hz
    have := rd.str; subst this
    have := re.str; subst this
    exact mt_splitN pins s σ H _ _ v us Q I rx rs ⟨G, _, _, sm, rfl, rfl, hz.1, hz.2, New.still fin⟩
  | index =>
    cases d <;> cases e <;> simp only [m1D] at hf <;> try (cases hf; done)
    split at hf <;> cases hf
    rename_i k rest hk
    have := rd.str; subst this
    have := re.str; subst this
    obtain ⟨t, rfl⟩ := rx
    obtain ⟨u, rfl, ru⟩ := Vals.one rs
    obtain ⟨t2, rfl⟩ := ru
    exact call_gives PySem.F.slot_str_index (typeIs_str _ _ _) PySem.F.entry_str_index
      (PySem.F.args_str_index_2 _ _) (gives_str_index _ _ t t2 k rest hk) ⟨.int (k : Nat), H, I.tok _, ⟨_, rfl⟩, fin.flat sm (.int _)⟩
  | rstrip =>
    cases d <;> cases e <;> simp only [m1D] at hf <;> try (cases hf; done)
    split at hf <;> cases hf
    rename_i hz
    have := rd.str; subst this
    have := re.str; subst this
    exact mt_rstripChars pins s σ H _ _ v us Q I rx rs ⟨_, _, rfl, rfl, le_line hz, fin.flat sm (.str _)⟩
  | find =>
    cases d <;> cases e <;> simp only [m1D] at hf <;> try (cases hf; done)
    cases hf
    have := rd.str; subst this
    have := re.str; subst this
    exact mt_find pins s σ H _ _ v us Q I rx rs ⟨_, _, rfl, rfl, fin.flat sm (.int _)⟩
  | join =>
    have go : ∀ (a : Str) (ds : List Dat) (vs : List V) (p : Addr), joinD a ds = .ok r → x = .str a → y = .ref p → Reps X.K G vs ds → (SqL X.K H p vs ∨ SqT X.K H p vs) → wpAny (model X.prog X.w) X.A (call (.builtin "str.join") (v :: us)) (EP X pins σ Q) X.xe s := by
      intro a ds vs p hj ex ey rr hq
      subst ex ey
      unfold joinD at hj
      split at hj
      · rename_i ys hys
        split at hj <;> cases hj
        rename_i hz
        have e1 := strsD_some hys
        subst e1
        have e2 := rr.strs_inv
        subst e2
        exact mt_join pins s σ H _ _ v us Q I rx rs ⟨a, p, ys, rfl, rfl, hq, by omega, fin.flat sm (.str _)⟩
      · cases hj
    cases d <;> cases e <;> simp only [m1D] at hf <;> try (cases hf; done)
    · have ex := rd.str
      obtain ⟨p, vs, ey, q, rr⟩ := re.list sm
      exact go _ _ vs p hf ex ey rr (.inl q)
    · have ex := rd.str
      obtain ⟨p, vs, ey, q, rr⟩ := re.tup sm
      exact go _ _ vs p hf ex ey rr (.inr (sqT_keep sm q))
end
end NW
end

section
set_option maxHeartbeats 4000000
/-! The text against its terms; each term's reading holds of the text. -/
namespace NW
open PySem PySem.Spec PyProof.Rows L2

/-! ### the look at the text -/
structure Sig where
  nm : Str
  ln : List Bool
  /-- 0: a value that stays; 2: a list of the caller's own; 3: a value whose parts that are lists are new -/
  fr : Nat
  /-- the last parameter's name, where it is told by a keyword -/
  kw : Option Str
  /-- what it raises has no context -/
  cl : Bool
structure Tx where
  fns : List Sig
  cons : List Str
  exs : List Str
  /-- classes made with a row -/
  exr : List Str
  /-- what the def at hand raises has no context -/
  cl : Bool
def Tx.at_ (T : Tx) (b : Bool) : Tx := { T with cl := b }
def plainE : Expr → Bool
  | .Starred _ _ => false
  | .Set _ _ _ => false
  | .Slice _ _ _ _ => false
  | _ => true
/-- the receiver of a method -/
def baseE : Expr → Bool
  | .Call _ [] _ _ => false
  | _ => true
/-- whose truth is its value's -/
def tstE : Expr → Bool
  | .UnaryOp _ _ _ => false
  | .BoolOp _ _ _ => false
  | .IfExp _ _ _ _ => false
  | .Compare _ _ _ _ => false
  | _ => true
def visB (sc : Scope) (x : Str) : Bool := match sc.names.lookup x with
  | some .local => true
  | some .cell => true
  | some .free => true
  | _ => false
def locB (sc : Scope) (x : Str) : Bool := decide (sc.names.lookup x = some .local)
def glB (sc : Scope) (x : Str) : Bool := decide (sc.names.lookup x = some .globalImplicit)
def okN (x : Str) : Bool := !(x == ("__debug__" : Str)) && !(x == ("__classdict__" : Str)) && !(x == ("__name__" : Str))
def isTv : E → Bool
  | .tv _ => true
  | _ => false
def isNo : E → Bool
  | .no => true
  | _ => false
/-- what kind of value a term gives: 0 one that stays, 1 a lent one, 2 a new list -/
def kd (T : Tx) : E → Nat
  | .tv _ => 1
  | .lst _ => 2
  | .lc _ _ _ _ _ => 2
  | .bi .list _ => 2
  | .bi .sorted _ => 2
  | .m1 .split _ _ => 2
  | .cal k _ => match T.fns[k]? with
    | some sg => sg.fr
    | none => 0
  | _ => 0
/-- no test: True -/
def tyes : E → Bool
  | .bl b => b
  | _ => false
def isIfe : E → Bool
  | .ife _ _ _ => true
  | _ => false
/-- a target -/
def okG (N : List Str) (sc : Scope) : Tg → Expr → Bool
  | .nm i, .Name x _ => decide (N[i]? = some x) && locB sc x
  | .tp is, .Tuple es _ _ => decide (is.length = es.length) && (is.zip es).all fun p => match p.2 with
    | .Name x _ => decide (N[p.1]? = some x) && locB sc x
    | _ => false
  | _, _ => false
def bop (o : BoolOp) : Bool := match o with
  | .And => true
  | .Or => false
def tgIn (own : List Nat) : Tg → Bool
  | .nm i => own.contains i
  | .tp is => is.all own.contains
mutual
def okE (T : Tx) (n : Nat) (N : List Str) (sc : Scope) : E → Expr → Bool
  | .var i, .Name x _ => decide (N[i]? = some x) && visB sc x && okN x
  | .tv i, .Name x _ => decide (N[i]? = some x) && visB sc x && okN x
  | .non, .Constant .none _ _ => true
  | .bl b, .Constant (.bool c) _ _ => b == c
  | .int i, .Constant (.int j) _ _ => i == j
  | .str x, .Constant (.str y) _ _ => decide (x = y)
  | .con k, .Name x _ => decide (T.cons[k]? = some x) && glB sc x && okN x
  | .bin o a b, .BinOp x op y _ => decide (op = opB o) && okE T n N sc a x && okE T n N sc b y
  | .neg a, .UnaryOp .USub x _ => okE T n N sc a x
  | .cmp o a b, .Compare x [op] [y] _ => decide (op = opC o) && plainE y && okE T n N sc a x && okE T n N sc b y
  | .chn o p a b c, .Compare x [op, op'] [y, z] _ => decide (op = opC o) && decide (op' = opC p) && plainE z && okE T n N sc a x && okE T n N sc b y && okE T n N sc c z
  | .and a b, .BoolOp .And (x :: y :: r) pos => !isIfe a && !isIfe b && kd T a != 1 && kd T b != 1 && okE T n N sc a x && (match r with
    | [] => okE T n N sc b y
    | r => okE T n N sc b (.BoolOp .And (y :: r) pos))
  | .or a b, .BoolOp .Or (x :: y :: r) pos => !isIfe a && !isIfe b && kd T a != 1 && kd T b != 1 && okE T n N sc a x && (match r with
    | [] => okE T n N sc b y
    | r => okE T n N sc b (.BoolOp .Or (y :: r) pos))
  | .not a, .UnaryOp .Not x _ => !isIfe a && okE T n N sc a x
  | .ife c a b, .IfExp z x y _ => !isIfe c && okE T n N sc c z && okE T n N sc a x && okE T n N sc b y && kd T a != 1 && kd T b != 1
  | .ix a i, .Subscript x y _ => plainE y && okE T n N sc a x && okE T n N sc i y
  | .sl a lo hi, .Subscript x (.Slice l h .none _) _ => okE T n N sc a x && (match l with
      | none => isNo lo
      | some l => !isNo lo && okE T n N sc lo l) && (match h with
      | none => isNo hi
      | some h => !isNo hi && okE T n N sc hi h)
  | .tup es, .Tuple xs _ _ => okEs T n N sc [] es xs
  | .lst es, .List xs _ => okEs T n N sc [] es xs
  | .cal k es, .Call (.Name x _) (y :: ys) [] _ => (match T.fns[k]? with
    | some sg => decide (sg.nm = x) && decide (k < n) && glB sc x && okN x && decide (sg.ln.length = (y :: ys).length) && decide (sg.kw = none) && (!T.cl || sg.cl) && okEs T n N sc sg.ln es (y :: ys)
    | none => false)
  | .calk k es w e, .Call (.Name x _) (y :: ys) [⟨a, z, _⟩] _ => (match T.fns[k]? with
    | some sg => decide (sg.nm = x) && decide (k < n) && glB sc x && okN x && decide (sg.ln.length = (y :: ys).length + 1) && decide (sg.kw = some w) && decide (a = some w) && (sg.fr == 0) && (!T.cl || sg.cl) && okEs T n N sc [] es (y :: ys) && plainE z && okE T n N sc e z && kd T e != 1
    | none => false)
  | .bi f es, .Call (.Name x _) (y :: ys) [] _ => decide (nmB f = x) && glB sc x && okN x && okEs T n N sc [true, true] es (y :: ys)
  | .isi t e, .Call (.Name f _) [x, .Name y _] [] _ => decide (f = ("isinstance" : Str)) && decide (y = PySem.Str.ofString (nmT t)) && glB sc f && glB sc y && okN y && plainE x && okE T n N sc e x
  | .nrw c e, .Attribute (.Call (.Name x _) [y] [] _) a _ => decide (x = c) && decide (a = ("row" : Str)) && glB sc c && okN c && T.exr.contains c && decide (2 ≤ n) && plainE y && (kd T e != 1) && okE T n N sc e y
  | .m0 m o, .Call (.Attribute x f apos) [] [] pos => decide (f = nm0 m) && baseE x && (apos.endLine == pos.line) && okE T n N sc o x
  | .m1 m o a, .Call (.Attribute x f apos) [y] [] pos => decide (f = nm1 m) && baseE x && plainE y && (apos.endLine == pos.line) && okE T n N sc o x && okE T n N sc a y
  | .dc0, .Dict [] [] _ => true
  | .dc1 k e, .Dict [some x] [y] _ => okE T n N sc k x && okE T n N sc e y && (kd T e != 1)
  | .dget o k e, .Call (.Attribute x f apos) [y, z] [] pos => decide (f = ("get" : Str)) && baseE x && plainE y && plainE z && (apos.endLine == pos.line) && okE T n N sc o x && okE T n N sc k y && okE T n N sc e z && (kd T e != 1) && (kd T o != 1)
  | .lc own tg it tt elt, .ListComp x [⟨g, y, ifs, asy⟩] scope _ => decide (asy = 0) && blkC N sc scope (own.map fun i => (N.getD i "", i)) && tgIn own tg && plainE y && okI T n N sc it y && okG N (relS scope sc) tg g && kd T elt != 1 &&
      (match ifs with
      | [] => tyes tt
      | [c] => !isIfe tt && okE T n N (relS scope sc) tt c
      | _ => false) && okE T n N (relS scope sc) elt x
  | _, _ => false
def okEs (T : Tx) (n : Nat) (N : List Str) (sc : Scope) : List Bool → Es → List Expr → Bool
  | _, .nil, [] => true
  | ws, .cons e r, x :: xs => plainE x && okE T n N sc e x && (kd T e != 1 || ws.headD false) && okEs T n N sc ws.tail r xs
  | _, _, _ => false
def okI (T : Tx) (n : Nat) (N : List Str) (sc : Scope) : It → Expr → Bool
  | .seq e, x => okE T n N sc e x && kd T e != 1
  | .lent i, .Name x _ => decide (N[i]? = some x) && visB sc x && okN x
  | .own i, .Name x _ => decide (N[i]? = some x) && visB sc x && okN x
  | .rng1 a, .Call (.Name f _) [x] [] _ => decide (f = ("range" : Str)) && glB sc f && plainE x && okE T n N sc a x
  | .rng2 a b, .Call (.Name f _) [x, y] [] _ => decide (f = ("range" : Str)) && glB sc f && plainE x && plainE y && okE T n N sc a x && okE T n N sc b y
  | _, _ => false
end

/-! ### readings -/
/-- a slot's thing: B what stood from the start, H all, G what stays as it is -/
def SlR (K : PySem.W.Frag) (B H G : Hp) : Sl → Option V → Prop
  | .un, _ => True
  | .fz d, o => ∃ v, o = some v ∧ Rep K G v d
  | .ow ds, o => ∃ a vs, o = some (.ref a) ∧ H a = some (.lst vs) ∧ G a = none ∧ Reps K G vs ds
  | .ln ds, o => ∃ a vs, o = some (.ref a) ∧ SqL K B a vs ∧ Reps K G vs ds
  | .ex a dx _ x, o => o = some (.ref a) ∧ (match x with
    | none => dx = none
    | some d => ∃ b v, dx = some b ∧ H b = some (.xd [(("row" : Str), v)]) ∧ Rep K G v d)
structure ER (K : PySem.W.Frag) (B : Hp) (ρ : En) (σ : L2.St) (H G : Hp) : Prop where
  bas : Same B H
  sub : Same G H
  len : ρ.length = σ.length
  at_ : ∀ (i : Nat) (s : Sl), ρ[i]? = some s → ∃ o, σ[i]? = some o ∧ SlR K B H G s o
theorem SlR.ext {K : PySem.W.Frag} {B H G H' G' : Hp} (x : Ext H G H' G') {s : Sl} {o : Option V} (r : SlR K B H G s o) : SlR K B H' G' s o := by
  cases s with
  | un => trivial
  | fz d => obtain ⟨v, e, r⟩ := r; exact ⟨v, e, r.mono x.stl⟩
  | ow ds =>
    obtain ⟨a, vs, e, h, g, r⟩ := r
    refine ⟨a, vs, e, x.all _ _ h, ?_, r.mono x.stl⟩
    cases q : G' a with
    | none => rfl
    | some o =>
      rcases x.new a (by rw [q]; simp) with z | z
      · exact absurd g z
      · rw [z] at h; cases h
  | ln ds => obtain ⟨a, vs, e, h, r⟩ := r; exact ⟨a, vs, e, h, r.mono x.stl⟩
  | ex a dx c y =>
    obtain ⟨e, r⟩ := r
    refine ⟨e, ?_⟩
    cases y with
    | none => exact r
    | some d => obtain ⟨b, v, e1, e2, e3⟩ := r; exact ⟨b, v, e1, x.all _ _ e2, e3.mono x.stl⟩
theorem ER.ext {K : PySem.W.Frag} {B : Hp} {ρ : En} {σ : L2.St} {H G H' G' : Hp} (e : ER K B ρ σ H G) (x : Ext H G H' G') : ER K B ρ σ H' G' :=
  ⟨e.bas.trans x.all, x.sub, e.len, fun i s h => let ⟨o, h1, h2⟩ := e.at_ i s h; ⟨o, h1, h2.ext x⟩⟩
/-- an exception: its class by its name, what it holds -/
def XR (K : PySem.W.Frag) (mg : Str → Option Value) (H G : Hp) (cls : Value) (dx : Option Addr) (c : Str) (x : Option Dat) : Prop :=
  (∃ C, mg c = some (.ref C) ∧ cls = .ref C) ∧ (match x with
    | none => dx = none
    | some d => ∃ a v, dx = some a ∧ H a = some (.xd [(("row" : Str), v)]) ∧ Rep K G v d)
/-- a list that is new since H -/
def FreshL (K : PySem.W.Frag) (H G' : Hp) (v : V) (d : Dat) : Prop := ∀ ds, d = .list ds → ∃ a vs, v = .ref a ∧ H a = none ∧ G' a = some (.lst vs) ∧ Reps K G' vs ds
/-- a tuple whose parts that are lists are new since H -/
def FreshC (K : PySem.W.Frag) (H G' : Hp) (v : V) (d : Dat) : Prop := ∀ ds, d = .tuple ds → ∃ t vs, v = .ref t ∧ SqT K G' t vs ∧ Reps K G' vs ds ∧ ∀ (i : Nat) (u : V) (e : Dat), vs[i]? = some u → ds[i]? = some e → FreshL K H G' u e
def RK (K : PySem.W.Frag) (k : Nat) (H H' G' : Hp) (v : V) (d : Dat) : Prop := match k with
  | 0 => Rep K G' v d
  | 1 => RW K H' G' v d
  | 2 => ∃ a vs ds, v = .ref a ∧ d = .list ds ∧ H a = none ∧ G' a = none ∧ H' a = some (.lst vs) ∧ Reps K G' vs ds
  | _ => Rep K G' v d ∧ FreshC K H G' v d
def EndE (X : Cx) (W : WX) (k : Nat) (σ : L2.St) (H G : Hp) (Q : VK) : Res Dat → Prop
  | .ok d => ∀ v H' G', Ext H G H' G' → RK X.K k H H' G' v d → Q v H'
  | .exc c x => ∀ cls dx H' G', Ext H G H' G' → XR X.K X.mg H' G' cls dx c x → W cls dx σ H'
  | .bad => False
def tK (X : Cx) (P : Pg) (W : WX) (k : Nat) (e : E) : TE := fun σ H Q => ∃ B G ρ, ER X.K B ρ σ H G ∧ EndE X W k σ H G Q (ev P e ρ)
def EndT (X : Cx) (W : WX) (σ : L2.St) (H G : Hp) (Q : Bool → Hp → Prop) : Res Bool → Prop
  | .ok b => ∀ H' G', Ext H G H' G' → Q b H'
  | .exc c x => ∀ cls dx H' G', Ext H G H' G' → XR X.K X.mg H' G' cls dx c x → W cls dx σ H'
  | .bad => False
def tT (X : Cx) (P : Pg) (W : WX) (e : E) : TT := fun σ H Q => ∃ B G ρ, ER X.K B ρ σ H G ∧ EndT X W σ H G Q (ev P e ρ >>= fun d => truD d)
/-- arguments: lent where told -/
inductive RAs (K : PySem.W.Frag) (H G : Hp) : List Bool → List V → List Dat → Prop
  | nil {ws : List Bool} : RAs K H G ws [] []
  | cons {ws : List Bool} {v : V} {vs : List V} {d : Dat} {ds : List Dat} : (if ws.headD false = true then RW K H G v d else Rep K G v d) → RAs K H G ws.tail vs ds → RAs K H G ws (v :: vs) (d :: ds)
def EndA (X : Cx) (W : WX) (ws : List Bool) (σ : L2.St) (H G : Hp) (Q : List V → Hp → Prop) : Res (List Dat) → Prop
  | .ok ds => ∀ vs H' G', Ext H G H' G' → RAs X.K H' G' ws vs ds → Q vs H'
  | .exc c x => ∀ cls dx H' G', Ext H G H' G' → XR X.K X.mg H' G' cls dx c x → W cls dx σ H'
  | .bad => False
def tA (X : Cx) (P : Pg) (W : WX) (ws : List Bool) (es : Es) : TA := fun σ H Q => ∃ B G ρ, ER X.K B ρ σ H G ∧ EndA X W ws σ H G Q (evs P es ρ)
/-- what a walk yields: xs, whatever comes to what stands -/
structure Ylds (K : PySem.W.Frag) (B G0 : Hp) (J : L2.It) (xs : List Dat) : Prop where
  go : ∀ (i : Nat) (H G : Hp), i < xs.length → Same B H → Same G0 G → Same G H → J.go i H
  stop : ∀ (H G : Hp), Same B H → Same G0 G → Same G H → J.stop xs.length H
  yld : ∀ (i : Nat) (H G : Hp) (x : V) (H' : Hp), i < xs.length → Same B H → Same G0 G → Same G H → J.yld i H x H' → ∃ d G', xs[i]? = some d ∧ Ext H G H' G' ∧ Rep K G' x d
def EndI (X : Cx) (W : WX) (B : Hp) (σ : L2.St) (H G : Hp) (R : L2.It → Hp → Prop) : Res (List Dat) → Prop
  | .ok xs => ∀ J H' G', Ext H G H' G' → Ylds X.K B G' J xs → R J H'
  | .exc c x => ∀ cls dx H' G', Ext H G H' G' → XR X.K X.mg H' G' cls dx c x → W cls dx σ H'
  | .bad => False
def isOwn : It → Bool
  | .own _ => true
  | _ => false
/-- what an iterable's things stand on -/
def bI (it : It) (B H : Hp) : Hp := match it with
  | .own _ => H
  | _ => B
theorem bI_no {it : It} (h : isOwn it = false) (B H : Hp) : bI it B H = B := by cases it <;> first | rfl | cases h
theorem bI_self (it : It) (H : Hp) : bI it H H = H := by cases it <;> rfl
def tI (X : Cx) (P : Pg) (W : WX) (it : It) : TI := fun σ H R => ∃ B G ρ, ER X.K B ρ σ H G ∧ EndI X W (bI it B H) σ H G R (evI P it ρ)
/-- .. on all that stands now -/
theorem ER.re {K : PySem.W.Frag} {B : Hp} {ρ : En} {σ : L2.St} {H G : Hp} (e : ER K B ρ σ H G) : ER K H ρ σ H G :=
  ⟨Same.refl H, e.sub, e.len, fun i s h => by
    obtain ⟨o, h1, h2⟩ := e.at_ i s h
    refine ⟨o, h1, ?_⟩
    cases s with
    | ln ds => obtain ⟨a, vs, e1, e2, e3⟩ := h2; exact ⟨a, vs, e1, sqL_keep e.bas e2, e3⟩
    | un => exact h2
    | fz d => exact h2
    | ow ds => exact h2
    | ex a dx c y => exact h2⟩
theorem RK.weak {K : PySem.W.Frag} {k : Nat} {H H' G' : Hp} {v : V} {d : Dat} (r : RK K k H H' G' v d) : RW K H' G' v d := by
  match k, r with
  | 0, r => exact .st r
  | 1, r => exact r
  | 2, ⟨a, vs, ds, e1, e2, _, _, h, q⟩ => subst e1; subst e2; exact .wk (SqL.of h) q
  | k + 3, r => exact .st r.1
theorem PE.imp {X : Cx} {e : Expr} {t t' : TE} (h : PE X e t) (i : ∀ σ H Q, t' σ H Q → t σ H Q) : PE X e t' := ⟨fun pins s σ H Q I q => h.run pins s σ H Q I (i σ H Q q)⟩
theorem PT.imp {X : Cx} {e : Expr} {t t' : TT} (h : PT X e t) (i : ∀ σ H Q, t' σ H Q → t σ H Q) : PT X e t' := ⟨fun pins s σ H Q I q => h.run pins s σ H Q I (i σ H Q q)⟩
theorem PW.imp {X : Cx} {e : Expr} {t t' : TT} (h : PW X e t) (i : ∀ σ H Q, t' σ H Q → t σ H Q) : PW X e t' := ⟨fun w pins s σ H Q I q => h.run w pins s σ H Q I (i σ H Q q)⟩
theorem PA.imp {X : Cx} {e : List Expr} {t t' : TA} (h : PA X e t) (i : ∀ σ H Q, t' σ H Q → t σ H Q) : PA X e t' := ⟨fun pos pins s σ H Q I q => h.run pos pins s σ H Q I (i σ H Q q)⟩
theorem Fin.of {X : Cx} {W : WX} {σ : L2.St} {H G : Hp} {Q : VK} {d : Dat} (h : EndE X W 0 σ H G Q (.ok d)) : Fin X.K H G Q d := h
/-- what a term gives may be read -/
theorem tK_weak {X : Cx} {P : Pg} {W : WX} {k : Nat} {e : E} {σ : L2.St} {H : Hp} {Q : VK} (h : tK X P W 1 e σ H Q) : tK X P W k e σ H Q := by
  obtain ⟨B, G, ρ, er, h⟩ := h
  refine ⟨B, G, ρ, er, ?_⟩
  cases q : ev P e ρ with
  | ok d => rw [q] at h; exact fun v H' G' x r => h v H' G' x r.weak
  | exc c x => rw [q] at h; exact h
  | bad => rw [q] at h; exact h
/-- .. and kept, where it is not lent -/
theorem tK_still {X : Cx} {P : Pg} {W : WX} {k : Nat} {e : E} (hk : k ≠ 1) {σ : L2.St} {H : Hp} {Q : VK} (h : tK X P W 0 e σ H Q) : tK X P W k e σ H Q := by
  obtain ⟨B, G, ρ, er, h⟩ := h
  refine ⟨B, G, ρ, er, ?_⟩
  cases q : ev P e ρ with
  | ok d =>
    rw [q] at h
    match k, hk with
    | 0, _ => exact h
    | 2, _ =>
      intro v H' G' x r
      obtain ⟨a, vs, ds, rfl, rfl, na, ga, ha, rr⟩ := r
      exact New.still (Fin.of h) a vs H' G' x na ga ha rr
    | k + 3, _ => exact fun v H' G' x r => h v H' G' x r.1
  | exc c x => rw [q] at h; exact h
  | bad => rw [q] at h; exact h

/-! ### what the context knows -/
/-- a def's promise, by its meaning over data -/
def spD (K : PySem.W.Frag) (mg : Str → Option Value) (sg : Sig) (F : List Dat → Res Dat) : Sp := fun vs H Q E => ∃ G ds, Same G H ∧ vs.length = sg.ln.length ∧ RAs K H G sg.ln vs ds ∧ (match F ds with
  | .ok d => ∀ v H' G', Ext H G H' G' → RK K sg.fr H H' G' v d → Q v H'
  | .exc c x => ∀ cls dx H' G', Ext H G H' G' → XR K mg H' G' cls dx c x → E cls dx H'
  | .bad => False)
def bltN : List Str := ["len", "min", "max", "int", "str", "ord", "tuple", "list", "isinstance", "bool", "range", "any", "all", "sorted"]
/-- what an exception in the air may be -/
def TkB (b : Bool) (X : Cx) (W : WX) : Prop := if b = true then L2N.Takes X W else Takes X W
def CXB (b : Bool) (P : Program) (w : World) : CXT := if b = true then L2N.CX P w else L2.CX P w
theorem sky_weak {B : Heap} {l : List Env} {a L : Addr} {Z Z' : Obj → Prop} {h : Heap} (z : ∀ o, Z o → Z' o) (s : Sky B l a Z L h) : Sky B l a Z' L h := by
  rcases s with ⟨h1, h2, h3, oe, vs, h4, h5, h6⟩ | s | s
  · exact .inl ⟨h1, h2, h3, oe, vs, h4, z _ h5, h6⟩
  · exact .inr (.inl (L2H.flyingZ_imp z s))
  · exact .inr (.inr ⟨s.1, s.2.1, s.2.2.1, L2H.tracedZ_imp z s.2.2.2⟩)
theorem takesN {X : Cx} {W : WX} (tk : Takes X W) : L2N.Takes X W := fun u s' ⟨a, B, sI, pins, σ, H, cls, d, e, I, nb, up, sky, na, os, ag, w⟩ =>
  tk u s' ⟨a, B, sI, pins, σ, H, cls, d, e, I, nb, up, sky_weak (fun _ z => z.zc) sky, na, os, ag, w⟩
theorem tkb0 (b : Bool) {X : Cx} : TkB b X (fun _ _ _ _ => False) := by
  cases b
  · exact takes0
  · exact takesN takes0
theorem passB {b c : Bool} {X : Cx} {W : WX} (tk : TkB b X W) (h : (!b || c) = true) (σ : L2.St) : PassesAt (CXB c X.prog X.w) X σ (WE W σ) := by
  cases c
  · cases b
    · exact passAt tk σ
    · cases h
  · cases b
    · exact L2N.passAt (takesN tk) σ
    · exact L2N.passAt tk σ
/-- __init__(self, row): self.row = row -/
def spInit (K : PySem.W.Frag) : Sp := fun vs H Q _ => ∃ (a C : Addr) (v : V), vs = [.ref a, v] ∧ OexC K C ∧ PySem.W.findIn K (.ref C) "row" = some none ∧ H a = some (exo a C none) ∧
  ∀ dx, H dx = none → dx ≠ a → Q .non (upd (upd H dx (exd dx [(("row" : Str), v)])) a (exo a C (some dx)))
/-- a class that is made with a row -/
def RwK (P : Program) (w_ : World) (K : PySem.W.Frag) (mg : Str → Option Value) (base : Heap) (C : Addr) : Prop := ∃ (fI : Addr) (fd : FuncData), OexC K C ∧ PySem.W.findIn K (.ref C) "row" = some none ∧
  PySem.W.findIn K (.ref C) "__init__" = some (some (.ref fI)) ∧ PySem.W.typeIn K (.ref fI) = some (.type "function") ∧ FnOk P w_ K mg base (L2.CX P w_) 1 fI fd ["self", "row"] (spInit K) ∧
  L2H.FnH P w_ K mg base (L2.CX P w_) 1 fI fd ["self", "row"] (spInit K) ∧ Binds K fd ["self", "row"] [] ∧ XfC K C
/-- a def that may be called as sg tells; what lacks stands in its defaults -/
def FnX (P : Program) (w_ : World) (K : PySem.W.Frag) (mg : Str → Option Value) (base : Heap) (n : Nat) (sg : Sig) (F : List Dat → Res Dat) : Prop :=
  match sg.kw with
  | none => ∃ (f : Addr) (fd : FuncData) (ps : List Str) (ds : List Value) (dvs : List V) (sp : Sp), mg sg.nm = some (.ref f) ∧ PySem.W.keepIn K (.ref f) = true ∧ FnOk P w_ K mg base (CXB sg.cl P w_) n f fd ps sp ∧ Binds K fd ps ds ∧ Vals dvs ds ∧ ∀ vs H Q E, spD K mg sg F vs H Q E → sp (vs ++ dvs) H Q E
  | some w => ∃ (f : Addr) (fd : FuncData) (ps : List Str) (g : List Value → List Value → List Value) (gV : List V → List V → List V) (sp : Sp), mg sg.nm = some (.ref f) ∧ PySem.W.keepIn K (.ref f) = true ∧ FnOk P w_ K mg base (CXB sg.cl P w_) n f fd ps sp ∧ KBn K fd ps (sg.ln.length - 1) [w] g gV ∧ sg.ln = List.replicate sg.ln.length false ∧
      ∀ vs z H Q E, spD K mg sg F (vs ++ [z]) H Q E → sp (gV vs [z]) H Q E
/-- a class of one's own under ValueError, without an __init__ of its own -/
structure ExK (K : PySem.W.Frag) (C : Addr) : Prop where
  exc : PySem.W.excIn K C He.veBase "ValueError.__new__" = true
  keep : PySem.W.keepIn K (.ref C) = true
  sub : PySem.W.subIn K (.ref C) (.type "BaseException") = some true
  ty : PySem.W.typeIn K (.ref C) = some (.type "type")
/-- what isinstance says of an exception of class c -/
def IssK (K : PySem.W.Frag) (mg : Str → Option Value) (c c' : Str) (b : Bool) : Prop := ∃ C, mg c = some (.ref C) ∧ ExcC K C ∧ PySem.W.findIn K (.ref C) "row" = some none ∧
  ((∃ C', mg c' = some (.ref C') ∧ PySem.W.kitOne K (.ref C) (.ref C') = some b) ∨ (c' = "ValueError" ∧ mg c' = none ∧ PySem.W.kitOne K (.ref C) (.type "ValueError") = some b))
structure Gd (X : Cx) (T : Tx) (P : Pg) (n : Nat) (W : WX) : Prop where
  calm : X.calm = true
  nd : X.N.Nodup
  room : Room n X.A
  tk : TkB T.cl X W
  fns : ∀ k sg, k < n → T.fns[k]? = some sg → FnX X.prog X.w X.K X.mg X.base n sg (P.F k)
  cons : ∀ k x, T.cons[k]? = some x → ∃ u v, X.mg x = some u ∧ RelV v u ∧ ∀ G, Rep X.K G v (P.C k)
  blt : ∀ b ∈ bltN, X.mg b = none
  exs : ∀ c ∈ T.exs, ∃ C, X.mg c = some (.ref C) ∧ ExK X.K C
  exm : ∀ c c' b, P.X c c' = some b → ∃ C C', X.mg c = some (.ref C) ∧ X.mg c' = some (.ref C') ∧ PySem.W.exmOne X.K (.ref C) (.ref C') = some b
  iss : ∀ c c' b, P.I c c' = some b → IssK X.K X.mg c c' b
  exr : ∀ c ∈ T.exr, ∃ C, X.mg c = some (.ref C) ∧ RwK X.prog X.w X.K X.mg X.base C
/-- .. within a comprehension -/
theorem Gd.blk {X : Cx} {T : Tx} {P : Pg} {n : Nat} {W : WX} (g : Gd X T P n W) (s : Shared) (H : Hp) (scope : Scope) (cenv : Env) (fp : List Addr) : Gd (X.blk s H scope cenv fp) T P n (fun _ _ _ _ => False) :=
  ⟨g.calm, g.nd, g.room, tkb0 _, g.fns, g.cons, g.blt, g.exs, g.exm, g.iss, g.exr⟩
theorem vis_of {X : Cx} {x : Str} (h : visB X.env.scope x = true) : Vis X.env.scope x := by
  unfold visB at h
  split at h
  · rename_i e; exact .inl e
  · rename_i e; exact .inr (.inl e)
  · rename_i e; exact .inr (.inr e)
  · cases h
theorem okN_d {x : Str} (h : okN x = true) : (x == ("__debug__" : Str)) = false := by
  unfold okN at h
  simp only [Bool.and_eq_true, Bool.not_eq_true'] at h
  exact h.1.1
theorem okN_c {x : Str} (h : okN x = true) : (x == ("__classdict__" : Str)) = false := by
  unfold okN at h
  simp only [Bool.and_eq_true, Bool.not_eq_true'] at h
  exact h.1.2
theorem okN_n {x : Str} (h : okN x = true) : x ≠ "__name__" := by
  unfold okN at h
  simp only [Bool.and_eq_true, Bool.not_eq_true'] at h
  intro e
  have := h.2
  rw [e] at this
  simp at this
theorem star_cons {x : Expr} {xs : List Expr} {env : Env} (h : plainE x = true) : starEach (x :: xs) env = (false, eval x env) :: starEach xs env := by
  cases x <;> first | rfl | (simp [plainE] at h)
/-- a list of plain ones -/
def plains (xs : List Expr) : Bool := xs.all plainE
theorem no_star {env : Env} {pos : Pos} : ∀ {xs : List Expr}, plains xs = true → (backTo pos (starEach xs env)).any (·.1) = false
  | [], _ => rfl
  | x :: xs, h => by
    unfold plains at h
    rw [List.all_cons, Bool.and_eq_true] at h
    rw [star_cons h.1]
    show (false || (backTo pos (starEach xs env)).any (·.1)) = false
    rw [no_star (xs := xs) h.2]
    rfl
theorem okEs_plain {T : Tx} {n : Nat} {N : List Str} {sc : Scope} : ∀ {es : Es} {ws : List Bool} {xs : List Expr}, okEs T n N sc ws es xs = true → plains xs = true
  | .nil, _, [], _ => rfl
  | .nil, _, _ :: _, h => by simp [okEs] at h
  | .cons e r, _, [], h => by simp [okEs] at h
  | .cons e r, ws, x :: xs, h => by
    simp only [okEs, Bool.and_eq_true] at h
    show (plainE x && xs.all plainE) = true
    rw [h.1.1.1, Bool.true_and]
    exact okEs_plain (es := r) h.2
theorem plain_ix {b : Expr} (h : plainE b = true) : PlainIx b := fun o i => by cases b <;> first | rfl | (simp [plainE] at h)
theorem plain_mark {b : Expr} {op : CmpOp} (h : plainE b = true) : behindInMarks op b = false := by cases b <;> first | rfl | (simp [plainE] at h)
theorem plain_fold {b : Expr} {env : Env} (h : plainE b = true) : ∀ x, foldedSetIterable b env x = pure x := fun x => by cases b <;> first | rfl | (simp [plainE] at h)
theorem base_attr {o : Expr} {f : Str} {env : Env} (h : baseE o = true) : attributeBase o f env (eval o env) = eval o env := by
  cases o <;> first | rfl | skip
  rename_i fn args kws pos
  cases args with
  | nil => simp [baseE] at h
  | cons a r => cases fn <;> rfl
theorem tst_true {a : Expr} {env : Env} (h : tstE a = true) : ∀ whole, isTrue a env whole = (do let v ← whole; standAt a.pos; holding [v] (truthy v)) := fun whole => by
  cases a <;> first | rfl | (simp [tstE] at h)
end NW
end

section
set_option maxHeartbeats 4000000
/-! The terms' readings hold of the text that passes the look. -/
namespace NW
open PySem PySem.Spec PyProof.Rows L2

theorem getS_some {ρ : En} {i : Nat} {s : Sl} (h : getS ρ i = s) (n : s ≠ .un) : ρ[i]? = some s := by
  unfold getS at h
  rw [List.getD_eq_getElem?_getD] at h
  cases q : ρ[i]? with
  | none => rw [q] at h; exact absurd h.symm n
  | some z => rw [q] at h; simp at h; rw [h]
section
variable {X : Cx} {P : Pg} {W : WX} {σ : L2.St} {H G B : Hp} {ρ : En} {Q : VK} {k : Nat}
theorem RK.on {K : PySem.W.Frag} {H H1 H' G' : Hp} (s : Same H H1) {v : V} {d : Dat} (r : RK K k H1 H' G' v d) : RK K k H H' G' v d := by
  match k, r with
  | 0, r => exact r
  | 1, r => exact r
  | 2, ⟨a, vs, ds, e1, e2, na, q⟩ => exact ⟨a, vs, ds, e1, e2, s.free na, q⟩
  | k + 3, r =>
    refine ⟨r.1, fun ds e => ?_⟩
    obtain ⟨t, vs, e1, e2, e3⟩ := r.2 ds e
    refine ⟨t, vs, e1, e2, e3.1, fun i u w h1 h2 es he => ?_⟩
    obtain ⟨a, us, z1, z2, z3, z4⟩ := e3.2 i u w h1 h2 es he
    exact ⟨a, us, z1, s.free z2, z3, z4⟩
theorem EndE.on {H1 G1 : Hp} (x : Ext H G H1 G1) {r : Res Dat} (h : EndE X W k σ H G Q r) : EndE X W k σ H1 G1 Q r := by
  cases r with
  | ok d => exact fun v H' G' y q => h v H' G' (x.trans y) (q.on x.all)
  | exc c z => exact fun cls dx H' G' y q => h cls dx H' G' (x.trans y) q
  | bad => exact h
theorem EndT.on {H1 G1 : Hp} {Q : Bool → Hp → Prop} (x : Ext H G H1 G1) {r : Res Bool} (h : EndT X W σ H G Q r) : EndT X W σ H1 G1 Q r := by
  cases r with
  | ok d => exact fun H' G' y => h H' G' (x.trans y)
  | exc c z => exact fun cls dx H' G' y q => h cls dx H' G' (x.trans y) q
  | bad => exact h
theorem EndA.on {H1 G1 : Hp} {ws : List Bool} {Q : List V → Hp → Prop} (x : Ext H G H1 G1) {r : Res (List Dat)} (h : EndA X W ws σ H G Q r) : EndA X W ws σ H1 G1 Q r := by
  cases r with
  | ok d => exact fun v H' G' y q => h v H' G' (x.trans y) q
  | exc c z => exact fun cls dx H' G' y q => h cls dx H' G' (x.trans y) q
  | bad => exact h
theorem EndI.on {H1 G1 : Hp} {Q : L2.It → Hp → Prop} (x : Ext H G H1 G1) {r : Res (List Dat)} (h : EndI X W B σ H G Q r) : EndI X W B σ H1 G1 Q r := by
  cases r with
  | ok d => exact fun v H' G' y q => h v H' G' (x.trans y) q
  | exc c z => exact fun cls dx H' G' y q => h cls dx H' G' (x.trans y) q
  | bad => exact h
/-- a term, then what is done with its value -/
theorem bndE {a : E} {f : Dat → Res Dat} {j : Nat} {Q' : VK} (er : ER X.K B ρ σ H G) (h : EndE X W k σ H G Q (ev P a ρ >>= f))
    (c : ∀ d x H1 G1, Ext H G H1 G1 → RK X.K j H H1 G1 x d → ER X.K B ρ σ H1 G1 → EndE X W k σ H1 G1 Q (f d) → Q' x H1) : tK X P W j a σ H Q' := by
  refine ⟨B, G, ρ, er, ?_⟩
  cases q : ev P a ρ with
  | ok d => rw [q] at h; exact fun v H' G' x r => c d v H' G' x r (er.ext x) (h.on x)
  | exc z y => rw [q] at h; exact h
  | bad => rw [q] at h; exact h
theorem bndT {a : E} {f : Dat → Res Bool} {j : Nat} {Q : Bool → Hp → Prop} {Q' : VK} (er : ER X.K B ρ σ H G) (h : EndT X W σ H G Q (ev P a ρ >>= f))
    (c : ∀ d x H1 G1, Ext H G H1 G1 → RK X.K j H H1 G1 x d → ER X.K B ρ σ H1 G1 → EndT X W σ H1 G1 Q (f d) → Q' x H1) : tK X P W j a σ H Q' := by
  refine ⟨B, G, ρ, er, ?_⟩
  cases q : ev P a ρ with
  | ok d => rw [q] at h; exact fun v H' G' x r => c d v H' G' x r (er.ext x) (h.on x)
  | exc z y => rw [q] at h; exact h
  | bad => rw [q] at h; exact h
theorem bndA {a : E} {f : Dat → Res (List Dat)} {ws : List Bool} {j : Nat} {Q : List V → Hp → Prop} {Q' : VK} (er : ER X.K B ρ σ H G) (h : EndA X W ws σ H G Q (ev P a ρ >>= f))
    (c : ∀ d x H1 G1, Ext H G H1 G1 → RK X.K j H H1 G1 x d → ER X.K B ρ σ H1 G1 → EndA X W ws σ H1 G1 Q (f d) → Q' x H1) : tK X P W j a σ H Q' := by
  refine ⟨B, G, ρ, er, ?_⟩
  cases q : ev P a ρ with
  | ok d => rw [q] at h; exact fun v H' G' x r => c d v H' G' x r (er.ext x) (h.on x)
  | exc z y => rw [q] at h; exact h
  | bad => rw [q] at h; exact h
theorem bndI {a : E} {f : Dat → Res (List Dat)} {j : Nat} {Q : L2.It → Hp → Prop} {Q' : VK} (er : ER X.K B ρ σ H G) (h : EndI X W B σ H G Q (ev P a ρ >>= f))
    (c : ∀ d x H1 G1, Ext H G H1 G1 → RK X.K j H H1 G1 x d → ER X.K B ρ σ H1 G1 → EndI X W B σ H1 G1 Q (f d) → Q' x H1) : tK X P W j a σ H Q' := by
  refine ⟨B, G, ρ, er, ?_⟩
  cases q : ev P a ρ with
  | ok d => rw [q] at h; exact fun v H' G' x r => c d v H' G' x r (er.ext x) (h.on x)
  | exc z y => rw [q] at h; exact h
  | bad => rw [q] at h; exact h
/-- arguments, then -/
theorem bndAE {es : Es} {f : List Dat → Res Dat} {ws : List Bool} {Q' : List V → Hp → Prop} (er : ER X.K B ρ σ H G) (h : EndE X W k σ H G Q (evs P es ρ >>= f))
    (c : ∀ ds xs H1 G1, evs P es ρ = .ok ds → Ext H G H1 G1 → RAs X.K H1 G1 ws xs ds → ER X.K B ρ σ H1 G1 → EndE X W k σ H1 G1 Q (f ds) → Q' xs H1) : tA X P W ws es σ H Q' := by
  refine ⟨B, G, ρ, er, ?_⟩
  cases q : evs P es ρ with
  | ok d => rw [q] at h; exact fun v H' G' x r => c d v H' G' q x r (er.ext x) (h.on x)
  | exc z y => rw [q] at h; exact h
  | bad => rw [q] at h; exact h
/-- a test, then -/
theorem bndTE {a : E} {f : Bool → Res Dat} {Q' : Bool → Hp → Prop} (er : ER X.K B ρ σ H G) (h : EndE X W k σ H G Q (ev P a ρ >>= fun d => truD d >>= f))
    (c : ∀ b H1 G1, Ext H G H1 G1 → ER X.K B ρ σ H1 G1 → EndE X W k σ H1 G1 Q (f b) → Q' b H1) : tT X P W a σ H Q' := by
  refine ⟨B, G, ρ, er, ?_⟩
  cases q : ev P a ρ with
  | ok d =>
    rw [q] at h
    simp only [ok_bind] at h ⊢
    cases q2 : truD d with
    | ok b => rw [q2] at h; exact fun H' G' x => c b H' G' x (er.ext x) (h.on x)
    | exc z y => rw [q2] at h; exact h
    | bad => rw [q2] at h; exact h
  | exc z y => rw [q] at h; exact h
  | bad => rw [q] at h; exact h
theorem bndTT {a : E} {f : Bool → Res Bool} {Q : Bool → Hp → Prop} {Q' : Bool → Hp → Prop} (er : ER X.K B ρ σ H G) (h : EndT X W σ H G Q (ev P a ρ >>= fun d => truD d >>= f))
    (c : ∀ b H1 G1, Ext H G H1 G1 → ER X.K B ρ σ H1 G1 → EndT X W σ H1 G1 Q (f b) → Q' b H1) : tT X P W a σ H Q' := by
  refine ⟨B, G, ρ, er, ?_⟩
  cases q : ev P a ρ with
  | ok d =>
    rw [q] at h
    simp only [ok_bind] at h ⊢
    cases q2 : truD d with
    | ok b => rw [q2] at h; exact fun H' G' x => c b H' G' x (er.ext x) (h.on x)
    | exc z y => rw [q2] at h; exact h
    | bad => rw [q2] at h; exact h
  | exc z y => rw [q] at h; exact h
  | bad => rw [q] at h; exact h
theorem EndE.fin {f : Res Dat} (h : EndE X W 0 σ H G Q f) {d : Dat} (e : f = .ok d) : Fin X.K H G Q d := by subst e; exact h
/-- an operation's end: it is defined -/
theorem EndE.op {f : Dat → Res Dat} {d : Dat} (h : EndE X W 0 σ H G Q (f d)) (ne : ∀ c x, f d ≠ .exc c x) : ∃ r, f d = .ok r ∧ Fin X.K H G Q r := by
  cases q : f d with
  | ok r => rw [q] at h; exact ⟨r, rfl, h⟩
  | exc c x => exact absurd q (ne c x)
  | bad => rw [q] at h; exact h.elim
end
theorem bin_ne (o : Bop) (d e : Dat) (c : Str) (x : Option Dat) : binD o d e ≠ .exc c x := by
  intro h
  cases o <;> cases d <;> cases e <;> simp only [binD] at h <;> (try cases h) <;> (split at h <;> cases h)
theorem inB_ne (d e : Dat) (c : Str) (x : Option Dat) : inB d e ≠ .exc c x := by
  intro h
  cases e <;> simp only [inB] at h <;> (try cases h) <;> (try (split at h <;> cases h))
theorem cmp_ne (o : Cop) (d e : Dat) (c : Str) (x : Option Dat) : cmpD o d e ≠ .exc c x := by
  intro h
  cases o with
  | eq => simp only [cmpD] at h; split at h <;> cases h
  | ne => simp only [cmpD] at h; split at h <;> cases h
  | isin => exact inB_ne d e c x h
  | nin =>
    simp only [cmpD] at h
    cases q : inB d e with
    | ok r => rw [q] at h; cases h
    | exc c' x' => exact inB_ne d e c' x' q
    | bad => rw [q] at h; cases h
  | lt => cases d <;> cases e <;> simp only [cmpD] at h <;> cases h
  | le => cases d <;> cases e <;> simp only [cmpD] at h <;> cases h
  | gt => cases d <;> cases e <;> simp only [cmpD] at h <;> cases h
  | ge => cases d <;> cases e <;> simp only [cmpD] at h <;> cases h
  | isN => cases d <;> cases e <;> simp only [cmpD] at h <;> cases h
  | ntN => cases d <;> cases e <;> simp only [cmpD] at h <;> cases h
theorem tru_ne (d : Dat) (c : Str) (x : Option Dat) : truD d ≠ .exc c x := by
  intro h
  cases d <;> simp only [truD] at h <;> (try cases h) <;> (split at h <;> cases h)
theorem ix_ne (d e : Dat) (c : Str) (x : Option Dat) : ixD d e ≠ .exc c x := by
  intro h
  cases d <;> cases e <;> simp only [ixD] at h <;> (try cases h) <;> (split at h <;> (try cases h)) <;> (split at h <;> cases h)
theorem sl_ne (d : Dat) (l u : Option Int) (c : Str) (x : Option Dat) : slD d l u ≠ .exc c x := by
  intro h
  cases d <;> simp only [slD] at h <;> (try cases h) <;> (split at h <;> cases h)
theorem part_ne (d : Dat) (c : Str) (x : Option Dat) : partD d ≠ .exc c x := by
  intro h
  cases d <;> simp only [partD] at h <;> cases h
theorem isi_ne (t : Ty) (d : Dat) (c : Str) (x : Option Dat) : isiD t d ≠ .exc c x := by
  intro h
  cases t <;> cases d <;> simp only [isiD] at h <;> cases h
theorem m0_ne (m : M0) (d : Dat) (c : Str) (x : Option Dat) : m0D m d ≠ .exc c x := by
  intro h
  cases m <;> cases d <;> simp only [m0D] at h <;> (try cases h) <;> (split at h <;> cases h)
theorem join_ne (a : Str) (ds : List Dat) (c : Str) (x : Option Dat) : joinD a ds ≠ .exc c x := by
  intro h
  unfold joinD at h
  split at h
  · split at h <;> cases h
  · cases h
theorem m1_ne (m : M1) (d e : Dat) (c : Str) (x : Option Dat) : m1D m d e ≠ .exc c x := by
  intro h
  cases m with
  | join =>
    cases d <;> cases e <;> simp only [m1D] at h <;> first | (cases h; done) | exact join_ne _ _ _ _ h
  | startswith => cases d <;> cases e <;> simp only [m1D] at h <;> cases h
  | endswith => cases d <;> cases e <;> simp only [m1D] at h <;> cases h
  | split => cases d <;> cases e <;> simp only [m1D] at h <;> (try cases h) <;> (split at h <;> cases h)
  | index => cases d <;> cases e <;> simp only [m1D] at h <;> (try cases h) <;> (split at h <;> cases h)
  | rstrip => cases d <;> cases e <;> simp only [m1D] at h <;> (try cases h) <;> (split at h <;> cases h)
  | find => cases d <;> cases e <;> simp only [m1D] at h <;> cases h
theorem bi_ne (f : Bi) (ds : List Dat) (c : Str) (x : Option Dat) : biD f ds ≠ .exc c x := by
  intro h
  have z : ∀ r : Res Dat, r = .exc c x → (∃ d, r = .ok d) ∨ r = .bad → False := fun r e q => by
    subst e
    rcases q with ⟨d, q⟩ | q <;> cases q
  refine z _ h ?_
  clear h z
  unfold biD anyD allD minD sortD sortND
  split <;> first | exact .inl ⟨_, rfl⟩ | exact .inr rfl | (split <;> first | exact .inl ⟨_, rfl⟩ | exact .inr rfl | (split <;> first | exact .inl ⟨_, rfl⟩ | exact .inr rfl | (split <;> first | exact .inl ⟨_, rfl⟩ | exact .inr rfl)))

section
variable {X : Cx} {T : Tx} {P : Pg} {n : Nat} {W : WX} {x y z : Expr} {pos : Pos} {a b c : E} {ka kb kc : Nat}
theorem s_var {i : Nat} {nm : Str} (h : okE T n X.N X.env.scope (.var i) (.Name nm pos) = true) : PE X (.Name nm pos) (tK X P W 0 (.var i)) := by
  simp only [okE, Bool.and_eq_true, decide_eq_true_eq] at h
  refine PE.imp (pe_var h.1.1 (vis_of h.1.2) (okN_d h.2) (okN_c h.2)) fun σ H Q ⟨B, G, ρ, er, q⟩ => ?_
  simp only [ev] at q
  cases e : getS ρ i with
  | fz d =>
    rw [e] at q
    obtain ⟨o, h1, v, rfl, r⟩ := er.at_ i _ (getS_some e nofun)
    exact ⟨v, h1, q v H G (Ext.refl er.sub) r⟩
  | un => rw [e] at q; exact q.elim
  | ow _ => rw [e] at q; exact q.elim
  | ln _ => rw [e] at q; exact q.elim
  | ex _ _ _ _ => rw [e] at q; exact q.elim
theorem s_tv {i : Nat} {nm : Str} (h : okE T n X.N X.env.scope (.tv i) (.Name nm pos) = true) : PE X (.Name nm pos) (tK X P W 1 (.tv i)) := by
  simp only [okE, Bool.and_eq_true, decide_eq_true_eq] at h
  refine PE.imp (pe_var h.1.1 (vis_of h.1.2) (okN_d h.2) (okN_c h.2)) fun σ H Q ⟨B, G, ρ, er, q⟩ => ?_
  simp only [ev] at q
  cases e : getS ρ i with
  | fz d =>
    rw [e] at q
    obtain ⟨o, h1, v, rfl, r⟩ := er.at_ i _ (getS_some e nofun)
    cases d with
    | list ds => exact ⟨v, h1, q v H G (Ext.refl er.sub) (.st r)⟩
    | _ => exact q.elim
  | un => rw [e] at q; exact q.elim
  | ow ds =>
    rw [e] at q
    obtain ⟨o, h1, a, vs, rfl, h2, h3, r⟩ := er.at_ i _ (getS_some e nofun)
    exact ⟨_, h1, q _ H G (Ext.refl er.sub) (.wk (SqL.of h2) r)⟩
  | ln ds =>
    rw [e] at q
    obtain ⟨o, h1, a, vs, rfl, h2, r⟩ := er.at_ i _ (getS_some e nofun)
    exact ⟨_, h1, q _ H G (Ext.refl er.sub) (.wk (sqL_keep er.bas h2) r)⟩
  | ex _ _ _ _ => rw [e] at q; exact q.elim
theorem s_lit {e : E} {d : Dat} {v : V} {x : Expr} (hx : PE X x (tC v)) (he : ∀ ρ, ev P e ρ = .ok d) (r : ∀ G, Rep X.K G v d) : PE X x (tK X P W 0 e) :=
  PE.imp hx fun σ H Q ⟨B, G, ρ, er, q⟩ => by
    rw [he] at q
    exact q v H G (Ext.refl er.sub) (r G)
theorem weakE (ha : PE X x (tK X P W ka a)) : PE X x (tK X P W 1 a) := PE.imp ha fun _ _ _ h => tK_weak h
theorem stillE (hk : ka ≠ 1) (ha : PE X x (tK X P W ka a)) : PE X x (tK X P W 0 a) := PE.imp ha fun _ _ _ h => tK_still hk h
theorem s_bin {o : Bop} (ha : PE X x (tK X P W ka a)) (hb : PE X y (tK X P W kb b)) : PE X (.BinOp x (opB o) y pos) (tK X P W 0 (.bin o a b)) :=
  PE.imp (pe_op (op_bin o) (weakE ha) (weakE hb)) fun σ H Q ⟨B, G, ρ, er, q⟩ => by
    simp only [ev] at q
    refine bndE er q fun d v H1 G1 x1 r1 er1 q1 => ?_
    refine bndE er1 q1 fun e w H2 G2 x2 r2 er2 q2 => ?_
    obtain ⟨r, hr, fin⟩ := q2.op (bin_ne o d e)
    exact ⟨G2, d, e, r, er2.sub, RW.ext x2 r1, r2, hr, fin⟩
theorem s_neg (ha : PE X x (tK X P W ka a)) : PE X (.UnaryOp .USub x pos) (tK X P W 0 (.neg a)) :=
  PE.imp (pe_un un_neg (weakE ha)) fun σ H Q ⟨B, G, ρ, er, q⟩ => by
    simp only [ev] at q
    refine bndE er q fun d v H1 G1 x1 r1 er1 q1 => ?_
    cases d with
    | int i =>
      have := RW.int r1; subst this
      exact ⟨i, rfl, Fin.flat er1.sub (Fin.of q1) (.int _)⟩
    | _ => exact q1.elim
theorem s_cmp {o : Cop} {k : Nat} (hr : Room k X.A) (hp : plainE y = true) (ha : PE X x (tK X P W ka a)) (hb : PE X y (tK X P W kb b)) : PE X (.Compare x [opC o] [y] pos) (tK X P W 0 (.cmp o a b)) :=
  PE.imp (pe_cmpR (op_cmp hr o) (weakE ha) (weakE hb) (plain_mark hp)) fun σ H Q ⟨B, G, ρ, er, q⟩ => by
    simp only [ev] at q
    refine bndE er q fun d v H1 G1 x1 r1 er1 q1 => ?_
    refine bndE er1 q1 fun e w H2 G2 x2 r2 er2 q2 => ?_
    cases hc : cmpD o d e with
    | ok r => rw [hc] at q2; exact ⟨G2, d, e, r, er2.sub, RW.ext x2 r1, r2, hc, Fin.flat er2.sub (Fin.of q2) (.bl r)⟩
    | exc c z => exact absurd hc (cmp_ne o d e c z)
    | bad => rw [hc] at q2; exact q2.elim
theorem s_cmpT {o : Cop} {k : Nat} (hr : Room k X.A) (hp : plainE y = true) (ha : PE X x (tK X P W ka a)) (hb : PE X y (tK X P W kb b)) : PT X (.Compare x [opC o] [y] pos) (tT X P W (.cmp o a b)) :=
  PT.imp (pt_cmpR (op_cmp hr o) (weakE ha) (weakE hb) (plain_mark hp)) fun σ H Q ⟨B, G, ρ, er, q⟩ => by
    have e0 : (ev P (.cmp o a b) ρ >>= fun d => truD d) = (ev P a ρ >>= fun d => ev P b ρ >>= fun e => cmpD o d e) := by
      simp only [ev]
      cases h1 : ev P a ρ with
      | ok d =>
        simp only [ok_bind]
        cases h2 : ev P b ρ with
        | ok e =>
          simp only [ok_bind]
          cases h3 : cmpD o d e <;> rfl
        | exc _ _ => rfl
        | bad => rfl
      | exc _ _ => rfl
      | bad => rfl
    rw [e0] at q
    refine bndT er q fun d v H1 G1 x1 r1 er1 q1 => ?_
    refine bndT er1 q1 fun e w H2 G2 x2 r2 er2 q2 => ?_
    cases hc : cmpD o d e with
    | ok r => rw [hc] at q2; exact ⟨G2, d, e, r, er2.sub, RW.ext x2 r1, r2, hc, r, rfl, q2 H2 G2 (Ext.refl er2.sub)⟩
    | exc c z => exact absurd hc (cmp_ne o d e c z)
    | bad => rw [hc] at q2; exact q2.elim
theorem last_marks {o p : Cop} (hp : plainE z = true) : lastMarks [opC o, opC p] [y, z] = false := plain_mark hp
theorem s_chn {o p : Cop} {k : Nat} (hr : Room k X.A) (hp : plainE z = true) (ha : PE X x (tK X P W ka a)) (hb : PE X y (tK X P W kb b)) (hc : PE X z (tK X P W kc c)) : PE X (.Compare x [opC o, opC p] [y, z] pos) (tK X P W 0 (.chn o p a b c)) :=
  PE.imp (pe_chain (op_cmp hr o) (op_cmp hr p) (weakE ha) (weakE hb) (weakE hc) (last_marks hp)) fun σ H Q ⟨B, G, ρ, er, q⟩ => by
    simp only [ev] at q
    refine bndE er q fun d v H1 G1 x1 r1 er1 q1 => ?_
    refine bndE er1 q1 fun e w H2 G2 x2 r2 er2 q2 => ?_
    cases h1 : cmpD o d e with
    | ok r =>
      rw [h1] at q2
      refine ⟨G2, d, e, r, er2.sub, RW.ext x2 r1, r2, h1, r, rfl, ?_⟩
      cases r with
      | true =>
        rw [if_pos rfl]
        refine bndE er2 q2 fun f u H3 G3 x3 r3 er3 q3 => ?_
        cases h2 : cmpD p e f with
        | ok r => rw [h2] at q3; exact ⟨G3, e, f, r, er3.sub, RW.ext x3 r2, r3, h2, Fin.flat er3.sub (Fin.of q3) (.bl r)⟩
        | exc c z => exact absurd h2 (cmp_ne p e f c z)
        | bad => rw [h2] at q3; exact q3.elim
      | false =>
        rw [if_neg Bool.false_ne_true]
        exact Fin.flat er2.sub (Fin.of q2) (.bl false)
    | exc c z => exact absurd h1 (cmp_ne o d e c z)
    | bad => rw [h1] at q2; exact q2.elim
theorem s_chnT {o p : Cop} {k : Nat} (hr : Room k X.A) (hp : plainE z = true) (ha : PE X x (tK X P W ka a)) (hb : PE X y (tK X P W kb b)) (hc : PE X z (tK X P W kc c)) : PT X (.Compare x [opC o, opC p] [y, z] pos) (tT X P W (.chn o p a b c)) :=
  PT.imp (pt_chain (op_cmp hr o) (op_cmp hr p) (weakE ha) (weakE hb) (weakE hc) (last_marks hp)) fun σ H Q ⟨B, G, ρ, er, q⟩ => by
    have e0 : (ev P (.chn o p a b c) ρ >>= fun d => truD d) = (ev P a ρ >>= fun d => ev P b ρ >>= fun e => cmpD o d e >>= fun r => match r with
        | true => ev P c ρ >>= fun f => cmpD p e f
        | false => .ok false) := by
      simp only [ev]
      cases h1 : ev P a ρ with
      | ok d =>
        simp only [ok_bind]
        cases h2 : ev P b ρ with
        | ok e =>
          simp only [ok_bind]
          cases h3 : cmpD o d e with
          | ok r =>
            simp only [ok_bind]
            cases r with
            | true =>
              simp only
              cases h4 : ev P c ρ with
              | ok f =>
                simp only [ok_bind]
                cases h5 : cmpD p e f <;> rfl
              | exc _ _ => rfl
              | bad => rfl
            | false => rfl
          | exc _ _ => rfl
          | bad => rfl
        | exc _ _ => rfl
        | bad => rfl
      | exc _ _ => rfl
      | bad => rfl
    rw [e0] at q
    refine bndT er q fun d v H1 G1 x1 r1 er1 q1 => ?_
    refine bndT er1 q1 fun e w H2 G2 x2 r2 er2 q2 => ?_
    cases h1 : cmpD o d e with
    | ok r =>
      rw [h1] at q2
      refine ⟨G2, d, e, r, er2.sub, RW.ext x2 r1, r2, h1, r, rfl, ?_⟩
      cases r with
      | true =>
        rw [if_pos rfl]
        refine bndT er2 q2 fun f u H3 G3 x3 r3 er3 q3 => ?_
        cases h2 : cmpD p e f with
        | ok r => rw [h2] at q3; exact ⟨G3, e, f, r, er3.sub, RW.ext x3 r2, r3, h2, r, rfl, q3 H3 G3 (Ext.refl er3.sub)⟩
        | exc c z => exact absurd h2 (cmp_ne p e f c z)
        | bad => rw [h2] at q3; exact q3.elim
      | false =>
        rw [if_neg Bool.false_ne_true]
        exact ⟨false, rfl, q2 H2 G2 (Ext.refl er2.sub)⟩
    | exc c z => exact absurd h1 (cmp_ne o d e c z)
    | bad => rw [h1] at q2; exact q2.elim
/-- a value's truth as a test -/
theorem s_tst (ht : tstE x = true) (ha : PE X x (tK X P W ka a)) : PT X x (tT X P W a) :=
  PT.imp (pt_truth (weakE ha) (tst_true ht)) fun σ H Q ⟨B, G, ρ, er, q⟩ => by
    refine bndT er q fun d v H1 G1 x1 r1 er1 q1 => ?_
    cases h1 : truD d with
    | ok r => rw [h1] at q1; exact ⟨r, tru_of er1.sub r1 h1, q1 H1 G1 (Ext.refl er1.sub)⟩
    | exc c z => exact absurd h1 (tru_ne d c z)
    | bad => rw [h1] at q1; exact q1.elim
end
end NW
end

section
set_option maxHeartbeats 4000000
namespace NW
open PySem PySem.Spec PyProof.Rows L2

structure Snd (X : Cx) (T : Tx) (P : Pg) (W : WX) (e : E) (x : Expr) : Prop where
  pe : PE X x (tK X P W (kd T e) e)
  pt : isIfe e = false → PT X x (tT X P W e)
  pw : ∀ op vs pos, x = .BoolOp op vs pos → PW X x (tT X P W e)
section
variable {X : Cx} {T : Tx} {P : Pg} {n : Nat} {W : WX} {x y z : Expr} {pos : Pos} {a b c : E} {ka kb kc : Nat}
/-- two tests joined -/
theorem and_T (ρ : En) : (ev P (.and a b) ρ >>= fun d => truD d) = (ev P a ρ >>= fun d => truD d >>= fun r => match r with
    | true => ev P b ρ >>= fun e => truD e
    | false => .ok false) := by
  simp only [ev]
  cases h1 : ev P a ρ with
  | ok d =>
    simp only [ok_bind]
    cases h2 : truD d with
    | ok r =>
      simp only [ok_bind]
      cases r with
      | true => rfl
      | false => exact h2
    | exc _ _ => rfl
    | bad => rfl
  | exc _ _ => rfl
  | bad => rfl
theorem or_T (ρ : En) : (ev P (.or a b) ρ >>= fun d => truD d) = (ev P a ρ >>= fun d => truD d >>= fun r => match r with
    | true => .ok true
    | false => ev P b ρ >>= fun e => truD e) := by
  simp only [ev]
  cases h1 : ev P a ρ with
  | ok d =>
    simp only [ok_bind]
    cases h2 : truD d with
    | ok r =>
      simp only [ok_bind]
      cases r with
      | true => exact h2
      | false => rfl
    | exc _ _ => rfl
    | bad => rfl
  | exc _ _ => rfl
  | bad => rfl
theorem not_T (ρ : En) : (ev P (.not a) ρ >>= fun d => truD d) = (ev P a ρ >>= fun d => truD d >>= fun r => .ok (!r)) := by
  simp only [ev]
  cases h1 : ev P a ρ with
  | ok d =>
    simp only [ok_bind]
    cases h2 : truD d <;> rfl
  | exc _ _ => rfl
  | bad => rfl
theorem s_and {r : List Expr} (h1 : ka ≠ 1) (h2 : kb ≠ 1) (ha : PE X x (tK X P W ka a)) (hb : PE X (.BoolOp .And (y :: r) pos) (tK X P W kb b)) : PE X (.BoolOp .And (x :: y :: r) pos) (tK X P W 0 (.and a b)) :=
  PE.imp (pe_andT (stillE h1 ha) (stillE h2 hb)) fun σ H Q ⟨B, G, ρ, er, q⟩ => by
    simp only [ev] at q
    refine bndE er q fun d v H1 G1 x1 r1 er1 q1 => ?_
    cases h1 : truD d with
    | ok r =>
      rw [h1] at q1
      refine ⟨r, tru_of er1.sub (.st r1) h1, ?_⟩
      cases r with
      | true => rw [if_pos rfl]; exact ⟨B, G1, ρ, er1, q1⟩
      | false => rw [if_neg Bool.false_ne_true]; exact Fin.flat er1.sub (Fin.of q1) r1
    | exc c z => exact absurd h1 (tru_ne d c z)
    | bad => rw [h1] at q1; exact q1.elim
theorem s_or {r : List Expr} (h1 : ka ≠ 1) (h2 : kb ≠ 1) (ha : PE X x (tK X P W ka a)) (hb : PE X (.BoolOp .Or (y :: r) pos) (tK X P W kb b)) : PE X (.BoolOp .Or (x :: y :: r) pos) (tK X P W 0 (.or a b)) :=
  PE.imp (pe_orT (stillE h1 ha) (stillE h2 hb)) fun σ H Q ⟨B, G, ρ, er, q⟩ => by
    simp only [ev] at q
    refine bndE er q fun d v H1 G1 x1 r1 er1 q1 => ?_
    cases h1 : truD d with
    | ok r =>
      rw [h1] at q1
      refine ⟨r, tru_of er1.sub (.st r1) h1, ?_⟩
      cases r with
      | true => rw [if_pos rfl]; exact Fin.flat er1.sub (Fin.of q1) r1
      | false => rw [if_neg Bool.false_ne_true]; exact ⟨B, G1, ρ, er1, q1⟩
    | exc c z => exact absurd h1 (tru_ne d c z)
    | bad => rw [h1] at q1; exact q1.elim
theorem w_and {r : List Expr} (ha : PT X x (tT X P W a)) (hb : PW X (.BoolOp .And (y :: r) pos) (tT X P W b)) : PW X (.BoolOp .And (x :: y :: r) pos) (tT X P W (.and a b)) :=
  PW.imp (pw_and ha hb) fun σ H Q ⟨B, G, ρ, er, q⟩ => by
    rw [and_T] at q
    refine bndTT er q fun r H1 G1 x1 er1 q1 => ?_
    cases r with
    | true => rw [if_pos rfl]; exact ⟨B, G1, ρ, er1, q1⟩
    | false => rw [if_neg Bool.false_ne_true]; exact q1 H1 G1 (Ext.refl er1.sub)
theorem w_or {r : List Expr} (ha : PT X x (tT X P W a)) (hb : PW X (.BoolOp .Or (y :: r) pos) (tT X P W b)) : PW X (.BoolOp .Or (x :: y :: r) pos) (tT X P W (.or a b)) :=
  PW.imp (pw_or ha hb) fun σ H Q ⟨B, G, ρ, er, q⟩ => by
    rw [or_T] at q
    refine bndTT er q fun r H1 G1 x1 er1 q1 => ?_
    cases r with
    | true => rw [if_pos rfl]; exact q1 H1 G1 (Ext.refl er1.sub)
    | false => rw [if_neg Bool.false_ne_true]; exact ⟨B, G1, ρ, er1, q1⟩
theorem s_not (ha : PE X x (tK X P W ka a)) : PE X (.UnaryOp .Not x pos) (tK X P W 0 (.not a)) :=
  PE.imp (pe_notT (weakE ha)) fun σ H Q ⟨B, G, ρ, er, q⟩ => by
    simp only [ev] at q
    refine bndE er q fun d v H1 G1 x1 r1 er1 q1 => ?_
    cases h1 : truD d with
    | ok r => rw [h1] at q1; exact ⟨r, tru_of er1.sub r1 h1, Fin.flat er1.sub (Fin.of q1) (.bl _)⟩
    | exc c z => exact absurd h1 (tru_ne d c z)
    | bad => rw [h1] at q1; exact q1.elim
theorem s_notT (ha : PT X x (tT X P W a)) : PT X (.UnaryOp .Not x pos) (tT X P W (.not a)) :=
  PT.imp (pt_not ha) fun σ H Q ⟨B, G, ρ, er, q⟩ => by
    rw [not_T] at q
    refine bndTT er q fun r H1 G1 x1 er1 q1 => ?_
    exact q1 H1 G1 (Ext.refl er1.sub)
theorem s_ife (h1 : kb ≠ 1) (h2 : kc ≠ 1) (ha : PT X x (tT X P W a)) (hb : PE X y (tK X P W kb b)) (hc : PE X z (tK X P W kc c)) : PE X (.IfExp x y z pos) (tK X P W 0 (.ife a b c)) :=
  PE.imp (pe_ifExp ha (stillE h1 hb) (stillE h2 hc)) fun σ H Q ⟨B, G, ρ, er, q⟩ => by
    simp only [ev] at q
    refine bndTE er q fun r H1 G1 x1 er1 q1 => ?_
    cases r with
    | true => rw [if_pos rfl]; exact ⟨B, G1, ρ, er1, q1⟩
    | false => rw [if_neg Bool.false_ne_true]; exact ⟨B, G1, ρ, er1, q1⟩
theorem s_ix (hp : plainE y = true) (ha : PE X x (tK X P W ka a)) (hb : PE X y (tK X P W kb b)) : PE X (.Subscript x y pos) (tK X P W 0 (.ix a b)) :=
  PE.imp (pe_ix ix_data (weakE ha) (weakE hb) (plain_ix hp)) fun σ H Q ⟨B, G, ρ, er, q⟩ => by
    simp only [ev] at q
    refine bndE er q fun d v H1 G1 x1 r1 er1 q1 => ?_
    refine bndE er1 q1 fun e w H2 G2 x2 r2 er2 q2 => ?_
    obtain ⟨r, hr, fin⟩ := q2.op (ix_ne d e)
    exact ⟨G2, d, e, r, er2.sub, RW.ext x2 r1, r2, hr, fin⟩
/-- a slice's part -/
def tOp1 (X : Cx) (P : Pg) (W : WX) (e : E) : TO := fun σ H Q => ∃ B G ρ, ER X.K B ρ σ H G ∧ (match optE e (ev P e ρ) with
  | .ok o => ∀ H' G', Ext H G H' G' → Q o H'
  | .exc c x => ∀ cls dx H' G', Ext H G H' G' → XR X.K X.mg H' G' cls dx c x → W cls dx σ H'
  | .bad => False)
theorem PO.imp {X : Cx} {e : Option Expr} {t t' : TO} (h : PO X e t) (i : ∀ σ H Q, t' σ H Q → t σ H Q) : PO X e t' := ⟨fun pins s σ H Q I q => h.run pins s σ H Q I (i σ H Q q)⟩
theorem s_po {l : Option Expr} {lo : E} (h : (match l with
      | none => isNo lo
      | some l => !isNo lo && okE T n X.N X.env.scope lo l) = true) (hl : ∀ l, okE T n X.N X.env.scope lo l = true → PE X l (tK X P W (kd T lo) lo)) : PO X l (tOp1 X P W lo) := by
  cases l with
  | none =>
    refine PO.imp po_none fun σ H Q ⟨B, G, ρ, er, q⟩ => ?_
    cases lo <;> simp [isNo] at h
    exact q H G (Ext.refl er.sub)
  | some l =>
    simp only [Bool.and_eq_true, Bool.not_eq_true'] at h
    refine PO.imp (po_some (weakE (hl l h.2))) fun σ H Q ⟨B, G, ρ, er, q⟩ => ?_
    have e0 : optE lo (ev P lo ρ) = (ev P lo ρ >>= fun d => partD d) := by
      cases lo <;> first | rfl | (simp [isNo] at h)
    rw [e0] at q
    refine ⟨B, G, ρ, er, ?_⟩
    cases q1 : ev P lo ρ with
    | ok d =>
      rw [q1] at q
      intro v H' G' x r
      cases d with
      | int i => have := RW.int r; subst this; exact ⟨i, rfl, q H' G' x⟩
      | _ => exact q.elim
    | exc c x => rw [q1] at q; exact q
    | bad => rw [q1] at q; exact q
theorem bndO {e : E} {f : Option Int → Res Dat} {σ : L2.St} {B H G : Hp} {ρ : En} {Q : VK} {Q' : Option Int → Hp → Prop} (er : ER X.K B ρ σ H G) (h : EndE X W 0 σ H G Q (optE e (ev P e ρ) >>= f))
    (c : ∀ o H1 G1, Ext H G H1 G1 → ER X.K B ρ σ H1 G1 → EndE X W 0 σ H1 G1 Q (f o) → Q' o H1) : tOp1 X P W e σ H Q' := by
  refine ⟨B, G, ρ, er, ?_⟩
  cases q : optE e (ev P e ρ) with
  | ok d => rw [q] at h; exact fun H' G' x => c d H' G' x (er.ext x) (h.on x)
  | exc z y => rw [q] at h; exact h
  | bad => rw [q] at h; exact h
theorem s_sl {l h : Option Expr} {p2 : Pos} (ha : PE X x (tK X P W ka a)) (hl : PO X l (tOp1 X P W b)) (hh : PO X h (tOp1 X P W c)) : PE X (.Subscript x (.Slice l h none p2) pos) (tK X P W 0 (.sl a b c)) :=
  PE.imp (pe_slice sl_data (weakE ha) hl hh) fun σ H Q ⟨B, G, ρ, er, q⟩ => by
    simp only [ev] at q
    refine bndE er q fun d v H1 G1 x1 r1 er1 q1 => ?_
    refine bndO er1 q1 fun o H2 G2 x2 er2 q2 => ?_
    refine bndO er2 q2 fun u H3 G3 x3 er3 q3 => ?_
    obtain ⟨r, hr, fin⟩ := EndE.op (f := fun d => slD d o u) q3 (sl_ne d o u)
    exact ⟨G3, d, r, er3.sub, RW.ext x3 (RW.ext x2 r1), hr, fin⟩
theorem ras_still {K : PySem.W.Frag} {H G : Hp} : ∀ {vs : List V} {ds : List Dat}, RAs K H G [] vs ds → Reps K G vs ds
  | _, _, .nil => .nil
  | _, _, .cons r t => .cons (by simpa using r) (ras_still t)
theorem ras_weak {K : PySem.W.Frag} {H G : Hp} : ∀ {ws : List Bool} {vs : List V} {ds : List Dat}, RAs K H G ws vs ds → RWs K H G vs ds
  | _, _, _, .nil => .nil
  | ws, _, _, .cons r t => .cons (by
      by_cases h : ws.headD false = true
      · rw [if_pos h] at r; exact r
      · rw [if_neg h] at r; exact .st r) (ras_weak t)
theorem reps_len {K : PySem.W.Frag} {G : Hp} {vs : List V} {ds : List Dat} (r : Reps K G vs ds) {m : Nat} (h : ds.length ≤ m) : vs.length ≤ m := by rw [r.length]; exact h
theorem s_tup {xs : List Expr} {es : Es} {k : Nat} (h : PA X xs (tA X P W [] es)) : PE X (.Tuple xs k pos) (tK X P W 0 (.tup es)) :=
  PE.imp (pe_tup h) fun σ H Q ⟨B, G, ρ, er, q⟩ => by
    simp only [ev] at q
    refine bndAE er q fun ds vs H1 G1 _ x1 r1 er1 q1 => ?_
    split at q1
    · rename_i hz
      have rr := ras_still r1
      exact ⟨le_line (reps_len rr hz), fun p np => Fin.tup er1.sub (Fin.of q1) rr p np⟩
    · exact q1.elim
theorem New.of2 {σ : L2.St} {H G : Hp} {Q : VK} {ds : List Dat} (h : EndE X W 2 σ H G Q (.ok (.list ds))) : New X.K H G Q ds := fun a vs H' G' x na ga ha r => h _ H' G' x ⟨a, vs, ds, rfl, rfl, na, ga, ha, r⟩
theorem s_lst {xs : List Expr} {es : Es} (h : PA X xs (tA X P W [] es)) : PE X (.List xs pos) (tK X P W 2 (.lst es)) :=
  PE.imp (pe_lst h) fun σ H Q ⟨B, G, ρ, er, q⟩ => by
    simp only [ev] at q
    refine bndAE er q fun ds vs H1 G1 _ x1 r1 er1 q1 => ?_
    split at q1
    · rename_i hz
      have rr := ras_still r1
      exact ⟨le_line (reps_len rr hz), fun p np => (New.of2 q1).lst er1.sub rr p np⟩
    · exact q1.elim
def lenEs : Es → Nat
  | .nil => 0
  | .cons _ r => lenEs r + 1
theorem evs_len {ρ : En} : ∀ {es : Es} {ds : List Dat}, evs P es ρ = .ok ds → ds.length = lenEs es
  | .nil, ds, h => by simp only [evs] at h; cases h; rfl
  | .cons e r, ds, h => by
    simp only [evs] at h
    cases q : ev P e ρ with
    | ok d =>
      rw [q] at h
      simp only [ok_bind] at h
      cases q2 : evs P r ρ with
      | ok es => rw [q2] at h; simp only [ok_bind] at h; cases h; simp [evs_len q2, lenEs]
      | exc _ _ => rw [q2] at h; cases h
      | bad => rw [q2] at h; cases h
    | exc _ _ => rw [q] at h; cases h
    | bad => rw [q] at h; cases h
theorem okEs_len {N : List Str} {sc : Scope} : ∀ {es : Es} {ws : List Bool} {xs : List Expr}, okEs T n N sc ws es xs = true → lenEs es = xs.length
  | .nil, _, [], _ => rfl
  | .nil, _, _ :: _, h => by simp [okEs] at h
  | .cons e r, _, [], h => by simp [okEs] at h
  | .cons e r, ws, x :: xs, h => by
    simp only [okEs, Bool.and_eq_true] at h
    simp [lenEs, okEs_len h.2]
theorem ras_len {K : PySem.W.Frag} {H G : Hp} : ∀ {ws : List Bool} {vs : List V} {ds : List Dat}, RAs K H G ws vs ds → vs.length = ds.length
  | _, _, _, .nil => rfl
  | _, _, _, .cons _ t => by simp [ras_len t]
theorem s_cal {k : Nat} {nm : Str} {np : Pos} {xs : List Expr} {es : Es} {sg : Sig} (g : Gd X T P n W) (hs : T.fns[k]? = some sg) (hn : sg.nm = nm) (hk : k < n) (hg : glB X.env.scope nm = true) (ho : okN nm = true)
    (hw : sg.kw = none) (hcl : (!T.cl || sg.cl) = true) (hl : sg.ln.length = (y :: xs).length) (hl2 : lenEs es = (y :: xs).length) (hp : plains (y :: xs) = true) (h : PA X (y :: xs) (tA X P W sg.ln es)) : PE X (.Call (.Name nm np) (y :: xs) [] pos) (tK X P W sg.fr (.cal k es)) := by
  have hx := g.fns k sg hk hs
  unfold FnX at hx
  rw [hw] at hx
  obtain ⟨f, fd, ps, dfs, dvs, sp, h1, h2, h3, h4, h5, h6⟩ := hx
  subst hn
  have hp' := hp
  unfold plains at hp'
  rw [List.all_cons, Bool.and_eq_true] at hp'
  have hg' : X.env.scope.names.lookup sg.nm = some .globalImplicit := of_decide_eq_true hg
  refine PE.imp (pe_callSD h3 g.room hg' h1 h2 h4 h5 (fun σ => passB g.tk hcl σ) h (okN_d ho) (star_cons hp'.1) (no_star hp'.2)) fun σ H Q ⟨B, G, ρ, er, q⟩ => ?_
  simp only [ev] at q
  refine bndAE (Q' := fun vs H1 => sp (vs ++ dvs) H1 Q (WE W σ)) er q fun ds vs H1 G1 e1 x1 r1 er1 q1 => ?_
  refine h6 vs H1 Q (WE W σ) ?_
  refine ⟨G1, ds, er1.sub, by rw [ras_len r1, evs_len e1, hl, hl2], r1, ?_⟩
  cases hF : P.F k ds with
  | ok d => rw [hF] at q1; exact q1
  | exc c x => rw [hF] at q1; exact q1
  | bad => rw [hF] at q1; exact q1
/-- f(e, .., k = v) where what is raised is wished for at the caller's slots -/
def tCallNS (n m : Nat) (sp : Sp) (gV : List V → List V → List V) (E : L2.St → XK) (t tk : TA) : TE := fun σ H Q => t σ H fun vs H1 => tk σ H1 fun zs H2 => vs.length = n ∧ zs.length = m ∧ sp (gV vs zs) H2 Q (E σ)
theorem pe_callNS {CX : CXT} {k m : Nat} {f : Addr} {fd : FuncData} {ps ks : List Str} {sp : Sp} {E : L2.St → XK} {x : Str} {p pos : Pos} {e : Expr} {es : List Expr} {kws : List Keyword} {t tk : TA} {g : List Value → List Value → List Value} {gV : List V → List V → List V}
    (F : FnOk X.prog X.w X.K X.mg X.base CX k f fd ps sp) (hr : Room k X.A) (hg : Gl X x) (hm : X.mg x = some (.ref f)) (hk : PySem.W.keepIn X.K (.ref f) = true) (hb : KBn X.K fd ps m ks g gV) (hx : ∀ σ, PassesAt CX X σ (E σ))
    (ha : PA X (e :: es) t) (hkw : PK X kws tk) (hall : (backToKw pos (keywordEach kws X.env)).all (·.1.isSome) = true) (hks : (backToKw pos (keywordEach kws X.env)).filterMap (·.1) = ks)
    (hdb : (x == ("__debug__" : Str)) = false) (he : starEach (e :: es) X.env = (false, eval e X.env) :: starEach es X.env)
    (hpl : ((backTo pos (starEach (e :: es) X.env)).any (·.1) || (backToKw pos (keywordEach kws X.env)).any (·.1.isNone)) = false) :
    PE X (.Call (.Name x p) (e :: es) kws pos) (tCallNS m ks.length sp gV E t tk) := by
  refine ⟨fun pins s σ H Q I h => ?_⟩
  refine wpAny_Call_Name_kw (ld_glob I hg hm ?_ hdb)
  refine PySem.W.callWith_KW (h₀ := X.base) I.ok.mod.kin hk hall (thn (ha.run pos pins s σ H _ I h) fun us s1 ⟨vs, H1, I1, r, q⟩ => ?_) hpl he
  refine thn (hkw.run pos pins s1 σ H1 _ I1 q) fun ws s2 ⟨zs, H2, I2, rz, l1, l2, q2⟩ => ⟨I2.kIn, ?_⟩
  rw [hks]
  have r2 := hb.rel r rz
  refine wpAny_call (codeAny_mono (F.run X.A X.stack s2 H2 ⟨us, ks.zip ws⟩ (g us ws) (gV vs zs) Q (E σ) hr I2.env0 (hb.to s2 us ws I2.kIn (r.length.symm.trans l1) (rz.length.symm.trans l2)) r2 q2) fun r s' hq => ?_)
  cases r with
  | error e => exact hx σ pins H2 s2 e s' I2 hq
  | ok fl =>
    cases fl with
    | ret u => exact I2.after hq
    | next => exact False.elim hq
    | brk => exact False.elim hq
    | cont => exact False.elim hq
theorem ras_false {K : PySem.W.Frag} {H G : Hp} : ∀ {m : Nat} {vs : List V} {ds : List Dat}, Reps K G vs ds → RAs K H G (List.replicate m false) vs ds
  | _, [], _, .nil => .nil
  | 0, _ :: _, _, .cons r t => .cons (by simpa using r) (ras_false (m := 0) t)
  | m + 1, _ :: _, _, .cons r t => .cons (by simpa [List.replicate] using r) (ras_false t)
theorem s_calk {k : Nat} {nm w : Str} {np kp : Pos} {z : Expr} {xs : List Expr} {es : Es} {e : E} {sg : Sig} (g : Gd X T P n W) (hs : T.fns[k]? = some sg) (hn : sg.nm = nm) (hk : k < n) (hg : glB X.env.scope nm = true) (ho : okN nm = true)
    (hw : sg.kw = some w) (hcl : (!T.cl || sg.cl) = true) (hl : sg.ln.length = (y :: xs).length + 1) (hf : sg.fr = 0) (hl2 : lenEs es = (y :: xs).length) (hp : plains (y :: xs) = true) (h : PA X (y :: xs) (tA X P W [] es)) (he : PE X z (tK X P W 0 e)) :
    PE X (.Call (.Name nm np) (y :: xs) [⟨some w, z, kp⟩] pos) (tK X P W 0 (.calk k es w e)) := by
  have hx := g.fns k sg hk hs
  unfold FnX at hx
  rw [hw] at hx
  obtain ⟨f, fd, ps, gg, gV, sp, h1, h2, h3, h4, h5, h6⟩ := hx
  subst hn
  have hp' := hp
  unfold plains at hp'
  rw [List.all_cons, Bool.and_eq_true] at hp'
  have hg' : X.env.scope.names.lookup sg.nm = some .globalImplicit := of_decide_eq_true hg
  have hst : (backTo pos (starEach (y :: xs) X.env)).any (·.1) = false := no_star hp
  refine PE.imp (pe_callNS h3 g.room hg' h1 h2 h4 (fun σ => passB g.tk hcl σ) h (pk_cons (nm := some w) (kpos := kp) he pk_nil) rfl rfl (okN_d ho) (star_cons hp'.1) (by rw [hst]; rfl)) fun σ H Q ⟨B, G, ρ, er, q⟩ => ?_
  simp only [ev] at q
  refine bndAE (Q' := fun vs H1 => tCons (tK X P W 0 e) tNil σ H1 fun zs H2 => vs.length = sg.ln.length - 1 ∧ zs.length = [w].length ∧ sp (gV vs zs) H2 Q (WE W σ)) er q fun ds vs H1 G1 e1 x1 r1 er1 q1 => ?_
  refine bndE (Q' := fun v H2 => vs.length = sg.ln.length - 1 ∧ [v].length = [w].length ∧ sp (gV vs [v]) H2 Q (WE W σ)) er1 q1 fun d v H2 G2 x2 r2 er2 q2 => ?_
  have l1 : vs.length = (y :: xs).length := by rw [ras_len r1, evs_len e1, hl2]
  refine ⟨by omega, rfl, h6 vs v H2 Q (WE W σ) ?_⟩
  have rr := (ras_still r1).mono x2.stl
  refine ⟨G2, ds ++ [d], er2.sub, by rw [List.length_append, l1, hl]; rfl, ?_, ?_⟩
  · rw [h5]
    exact ras_false (rr.append (.cons r2 .nil))
  · cases hF : P.F k (ds ++ [d]) with
    | ok d => rw [hF] at q2; rw [hf]; exact q2
    | exc c x => rw [hF] at q2; exact q2
    | bad => rw [hF] at q2; exact q2
theorem PE.nil0 {vs : List V} {H G : Hp} {K : PySem.W.Frag} {d : Dat} {ws : List Bool} (r : RAs K H G ws vs [d]) : ∃ v, vs = [v] := by
  cases r with | cons _ t => cases t; exact ⟨_, rfl⟩
theorem s_bi {f : Bi} {np : Pos} {xs : List Expr} {es : Es} (g : Gd X T P n W) (hg : glB X.env.scope (nmB f) = true) (ho : okN (nmB f) = true) (hp : plains (y :: xs) = true) (h : PA X (y :: xs) (tA X P W [true, true] es)) :
    PE X (.Call (.Name (nmB f) np) (y :: xs) [] pos) (tK X P W (kd T (.bi f es)) (.bi f es)) := by
  have hp' := hp
  unfold plains at hp'
  rw [List.all_cons, Bool.and_eq_true] at hp'
  have hg' : X.env.scope.names.lookup (nmB f) = some .globalImplicit := of_decide_eq_true hg
  have hm : X.mg (nmB f) = none := g.blt _ (by cases f <;> simp [bltN, nmB])
  by_cases hL : f = .list
  · subst hL
    have hv : bootBuiltins (nmB .list) = some (.type "list") := boot_bi .list
    refine PE.imp (pe_callTy call_listN hg' hm hv h (okN_n ho) (okN_d ho) (star_cons hp'.1) (no_star hp'.2)) fun σ H Q ⟨B, G, ρ, er, q⟩ => ?_
    simp only [ev] at q
    refine bndAE (Q' := fun vs H1 => rListN X.K vs H1 Q) er q fun ds vs H1 G1 e1 x1 r1 er1 q1 => ?_
    cases hF : biD .list ds with
    | ok d =>
      rw [hF] at q1
      have key : ∃ e rs, ds = [e] ∧ d = .list rs := by
        rcases biD1 hF with ⟨e, rfl⟩ | ⟨e, e', rfl⟩
        · cases e <;> simp only [biD] at hF <;> cases hF <;> exact ⟨_, _, rfl, rfl⟩
        · cases e <;> simp only [biD] at hF <;> cases hF
      obtain ⟨e, rs, rfl, rfl⟩ := key
      exact ⟨G1, e, rs, er1.sub, ras_weak r1, hF, New.of2 q1⟩
    | exc c x => exact absurd hF (bi_ne _ _ _ _)
    | bad => rw [hF] at q1; exact q1.elim
  · by_cases hS : f = .sorted
    · subst hS
      have hv : bootBuiltins (nmB .sorted) = some (.builtin "sorted") := boot_bi .sorted
      refine PE.imp (pe_callB (call_sortedN g.calm (by have := g.room.un; omega)) hg' hm hv h (okN_n ho) (okN_d ho) (star_cons hp'.1) (no_star hp'.2)) fun σ H Q ⟨B, G, ρ, er, q⟩ => ?_
      simp only [ev] at q
      refine bndAE (Q' := fun vs H1 => rSortN X.K vs H1 Q) er q fun ds vs H1 G1 e1 x1 r1 er1 q1 => ?_
      cases hF : biD .sorted ds with
      | ok d =>
        rw [hF] at q1
        have key : ∃ e rs, ds = [e] ∧ d = .list rs := by
          rcases biD1 hF with ⟨e, rfl⟩ | ⟨e, e', rfl⟩
          · cases e <;> simp only [biD, sortD] at hF <;> try (cases hF; done)
            split at hF
            · split at hF <;> cases hF
              exact ⟨_, _, rfl, rfl⟩
            · unfold sortND at hF
              split at hF
              · split at hF <;> cases hF
                exact ⟨_, _, rfl, rfl⟩
              · cases hF
          · cases e <;> simp only [biD] at hF <;> cases hF
        obtain ⟨e, rs, rfl, rfl⟩ := key
        exact ⟨G1, e, rs, er1.sub, ras_weak r1, hF, New.of2 q1⟩
      | exc c x => exact absurd hF (bi_ne _ _ _ _)
      | bad => rw [hF] at q1; exact q1.elim
    have hk : kd T (.bi f es) = 0 := by cases f <;> first | rfl | exact absurd rfl hL | exact absurd rfl hS
    rw [hk]
    have go : ∀ σ H Q, tK X P W 0 (.bi f es) σ H Q → tCB (rBi X.K f) (tA X P W [true, true] es) σ H Q := fun σ H Q ⟨B, G, ρ, er, q⟩ => by
      simp only [ev] at q
      refine bndAE (Q' := fun vs H1 => rBi X.K f vs H1 Q) er q fun ds vs H1 G1 e1 x1 r1 er1 q1 => ?_
      obtain ⟨r, hr, fin⟩ : ∃ r, biD f ds = .ok r ∧ Fin X.K H1 G1 Q r := by
        cases hF : biD f ds with
        | ok r => rw [hF] at q1; exact ⟨r, rfl, q1⟩
        | exc c x => exact absurd hF (bi_ne _ _ _ _)
        | bad => rw [hF] at q1; exact q1.elim
      exact ⟨G1, ds, r, er1.sub, ras_weak r1, hr, fin⟩
    have hc := call_bi (X := X) g.calm (by have := g.room.un; omega) f
    have hv := boot_bi f
    cases f <;> first
      | exact PE.imp (pe_callB hc hg' hm hv h (okN_n ho) (okN_d ho) (star_cons hp'.1) (no_star hp'.2)) go
      | exact PE.imp (pe_callTy hc hg' hm hv h (okN_n ho) (okN_d ho) (star_cons hp'.1) (no_star hp'.2)) go
theorem s_isi {t : Ty} {f nm : Str} {np np2 : Pos} (g : Gd X T P n W) (hf : f = ("isinstance" : Str)) (hn : nm = PySem.Str.ofString (nmT t)) (h1 : glB X.env.scope f = true) (h2 : glB X.env.scope nm = true) (ho : okN nm = true) (hp : plainE x = true)
    (ha : PE X x (tK X P W ka a)) : PE X (.Call (.Name f np) [x, .Name nm np2] [] pos) (tK X P W 0 (.isi t a)) := by
  subst hf hn
  have g1 : X.env.scope.names.lookup ("isinstance" : Str) = some .globalImplicit := of_decide_eq_true h1
  have g2 : X.env.scope.names.lookup (PySem.Str.ofString (nmT t)) = some .globalImplicit := of_decide_eq_true h2
  have hm : X.mg (PySem.Str.ofString (nmT t)) = none := g.blt _ (by cases t <;> decide +kernel)
  have hb : PE X (.Name (PySem.Str.ofString (nmT t)) np2) (tC (.ty (nmT t))) := pe_bltn g2 hm (boot_ty t) rfl (okN_n ho) (okN_d ho)
  refine PE.imp (pe_callB (call_isiD t) g1 (g.blt _ (by decide +kernel)) PyProof.Rows.boot_isinstance (pa_cons (weakE ha) (pa_cons hb pa_nil) (star_cons hp)) (by decide) (by decide) (star_cons hp) rfl) fun σ H Q ⟨B, G, ρ, er, q⟩ => ?_
  simp only [ev] at q
  refine bndE er q fun d v H1 G1 x1 r1 er1 q1 => ?_
  cases hF : isiD t d with
  | ok r => rw [hF] at q1; exact ⟨G1, d, v, r, er1.sub, rfl, r1, hF, Fin.flat er1.sub (Fin.of q1) (.bl r)⟩
  | exc c x => exact absurd hF (isi_ne _ _ _ _)
  | bad => rw [hF] at q1; exact q1.elim
theorem m0_str {m : M0} {d r : Dat} (h : m0D m d = .ok r) : ∃ s, d = .str s := by cases m <;> cases d <;> simp only [m0D] at h <;> first | exact ⟨_, rfl⟩ | cases h
theorem m1_str {m : M1} {d e r : Dat} (h : m1D m d e = .ok r) : ∃ s, d = .str s := by cases m <;> cases d <;> simp only [m1D] at h <;> first | exact ⟨_, rfl⟩ | cases h
theorem s_m0 {m : M0} {apos : Pos} (hb : baseE x = true) (hl : (apos.endLine == pos.line) = true) (ha : PE X x (tK X P W ka a)) : PE X (.Call (.Attribute x (nm0 m) apos) [] [] pos) (tK X P W 0 (.m0 m a)) :=
  PE.imp (pe_m0 (slot0 m) (type0 m) (mt0_data m) (weakE ha) (base_attr hb) hl) fun σ H Q ⟨B, G, ρ, er, q⟩ => by
    simp only [ev] at q
    refine bndE er q fun d v H1 G1 x1 r1 er1 q1 => ?_
    obtain ⟨r, hr, fin⟩ := q1.op (m0_ne m d)
    obtain ⟨s, rfl⟩ := m0_str hr
    have := RW.str r1; subst this
    exact ⟨⟨_, rfl⟩, rfl, G1, _, r, er1.sub, r1, hr, fin⟩
theorem star1 {env : Env} (hp : plainE y = true) : starEach [y] env = [(false, eval y env)] := star_cons hp
theorem s_m1 {m : M1} {apos : Pos} (hb : baseE x = true) (hp : plainE y = true) (hl : (apos.endLine == pos.line) = true) (ha : PE X x (tK X P W ka a)) (hy : PE X y (tK X P W kb b)) : PE X (.Call (.Attribute x (nm1 m) apos) [y] [] pos) (tK X P W (kd T (.m1 m a b)) (.m1 m a b)) := by
  by_cases hS : m = .split
  · subst hS
    refine PE.imp (pe_m1 (slot1 .split) (type1 .split) mt_splitN (weakE ha) (weakE hy) (star1 hp) (base_attr hb) hl) fun σ H Q ⟨B, G, ρ, er, q⟩ => ?_
    simp only [ev] at q
    refine bndE er q fun d v H1 G1 x1 r1 er1 q1 => ?_
    cases d with
    | str s =>
      have := RW.str r1; subst this
      refine ⟨⟨_, rfl⟩, bndE er1 q1 fun e w H2 G2 x2 r2 er2 q2 => ?_⟩
      cases e <;> simp only [m1D] at q2 <;> try (exact q2.elim)
      split at q2
      · rename_i hz
        have := RW.str r2; subst this
        exact ⟨G2, _, _, er2.sub, rfl, rfl, hz.1, hz.2, New.of2 q2⟩
      · exact q2.elim
    | _ => exact q1.elim
  · have hk : kd T (.m1 m a b) = 0 := by cases m <;> first | rfl | exact absurd rfl hS
    rw [hk]
    refine PE.imp (pe_m1 (slot1 m) (type1 m) (mt1_data m) (weakE ha) (weakE hy) (star1 hp) (base_attr hb) hl) fun σ H Q ⟨B, G, ρ, er, q⟩ => ?_
    simp only [ev] at q
    refine bndE er q fun d v H1 G1 x1 r1 er1 q1 => ?_
    cases d with
    | str s =>
      have := RW.str r1; subst this
      refine ⟨⟨_, rfl⟩, bndE er1 q1 fun e w H2 G2 x2 r2 er2 q2 => ?_⟩
      obtain ⟨r, hr, fin⟩ := EndE.op (f := fun e => m1D m (.str s) e) q2 (m1_ne m _ e)
      exact ⟨G2, _, w, e, r, er2.sub, rfl, RW.ext x2 r1, r2, hr, fin⟩
    | _ => exact q1.elim

/-! ### targets -/
/-! ### dicts that stay -/
theorem lk_valV {K : PySem.W.Frag} {G : Hp} {x : Str} : ∀ {kvs : List (Key × V)} {ds : List (Dat × Dat)}, Repd K G kvs ds →
    (∃ v d, valV kvs (.inr x) = some v ∧ lkD ds x = some d ∧ Rep K G v d) ∨ (valV kvs (.inr x) = none ∧ lkD ds x = none)
  | _, _, .nil => .inr ⟨rfl, rfl⟩
  | _, _, .int (i := i) (ds := ds) r t => by
    rcases lk_valV (x := x) t with ⟨v, d, h1, h2, h3⟩ | ⟨h1, h2⟩
    · exact .inl ⟨v, d, by rw [valV_neg (by simp)]; exact h1, by simp only [lkD]; exact h2, h3⟩
    · exact .inr ⟨by rw [valV_neg (by simp)]; exact h1, by simp only [lkD]; exact h2⟩
  | _, _, .str (x := y) (ds := ds) r t => by
    by_cases e : y = x
    · subst e
      exact .inl ⟨_, _, valV_pos rfl, by simp [lkD], r⟩
    · have ne : ¬ (Sum.inr y : Key) = .inr x := fun z => e (Sum.inr.inj z)
      rcases lk_valV (x := x) t with ⟨v, d, h1, h2, h3⟩ | ⟨h1, h2⟩
      · exact .inl ⟨v, d, by rw [valV_neg ne]; exact h1, by simp only [lkD, if_neg e]; exact h2, h3⟩
      · exact .inr ⟨by rw [valV_neg ne]; exact h1, by simp only [lkD, if_neg e]; exact h2⟩
theorem star2 {env : Env} (h1 : plainE y = true) (h2 : plainE z = true) : starEach [y, z] env = [(false, eval y env), (false, eval z env)] := by
  rw [star_cons h1, star_cons h2]; rfl
theorem m2_of {m : Str} {apos : Pos} (hb : baseE x = true) (h1 : plainE y = true) (h2 : plainE z = true) (hl : (apos.endLine == pos.line) = true) : M2 X x m apos y z pos :=
  ⟨base_attr hb, by rw [star2 h1 h2]; rfl, hl, by rw [star2 h1 h2]; rfl⟩
theorem s_dc0 : PE X (.Dict [] [] pos) (tK X P W 0 .dc0) :=
  PE.imp pe_dnewK fun σ H Q ⟨B, G, ρ, er, q⟩ p np => by
    simp only [ev] at q
    have := Fin.of q
    exact this _ _ (upd G p (.dK [])) (Ext.made er.sub np _) (.dct (.inl upd_same) .nil)
theorem s_dc1 (h1 : kb ≠ 1) (ha : PE X x (tK X P W ka a)) (hb : PE X y (tK X P W kb b)) : PE X (.Dict [some x] [y] pos) (tK X P W 0 (.dc1 a b)) :=
  PE.imp (pe_disp (pps_cons (weakE ha) (stillE h1 hb) pps_nil) rfl rfl (by simp) (by simp)) fun σ H Q ⟨B, G, ρ, er, q⟩ p np => by
    simp only [ev] at q
    have x0 : Ext H G (upd H p (.dK [])) G := Ext.laid er.sub np _
    have er0 := er.ext x0
    refine ⟨B, G, ρ, er0, ?_⟩
    cases qa : ev P a ρ with
    | bad => rw [qa] at q; exact q
    | exc c z =>
      rw [qa] at q
      exact fun cls dx H' G' x1 r => q cls dx H' G' (x0.trans x1) r
    | ok d =>
      rw [qa] at q
      simp only [ok_bind] at q
      intro v H1 G1 x1 r1
      cases d with
      | str s =>
        have := RW.str r1; subst this
        simp only [strD, ok_bind] at q
        refine ⟨B, G1, ρ, er0.ext x1, ?_⟩
        cases qb : ev P b ρ with
        | bad => rw [qb] at q; exact q
        | exc c z =>
          rw [qb] at q
          exact fun cls dx H' G' x2 r => q cls dx H' G' ((x0.trans x1).trans x2) r
        | ok e =>
          rw [qb] at q
          simp only [ok_bind] at q
          intro w H2 G2 x2 r2
          have xx := (x0.trans x1).trans x2
          have hp : H2 p = some (.dK []) := x2.all _ _ (x1.all _ _ upd_same)
          have gp : G2 p = none := by
            cases z : G2 p with
            | none => rfl
            | some o =>
              rcases (x1.trans x2).new p (by rw [z]; simp) with y | y
              · exact absurd (er.sub.free np) y
              · rw [upd_same] at y; cases y
          refine ⟨hp, [(.inr s, w)], rfl, by simp, ?_⟩
          have e0 : mergeK [] [((.inr s : Key), w)] = [(.inr s, w)] := rfl
          rw [e0]
          refine q _ _ (upd G2 p (.dK [(.inr s, w)])) ⟨fun b u e => ?_, fun b u e => ?_, fun b u e => ?_, fun b e => ?_⟩ (.dct (.inl upd_same) (.str (r2.mono fun b u e => ?_) .nil))
          · rw [upd_ne (ne_of_none e np)]; exact xx.all _ _ e
          · rw [upd_ne (ne_of_none (xx.stl _ _ e) gp)]; exact xx.stl _ _ e
          · by_cases hb : b = p
            · subst hb; rw [upd_same] at e ⊢; exact e
            · rw [upd_ne hb] at e ⊢; exact xx.sub _ _ e
          · by_cases hb : b = p
            · subst hb; exact .inr np
            · rw [upd_ne hb] at e; exact xx.new _ e
          · rw [upd_ne (ne_of_none e gp)]; exact e
      | _ => exact q.elim
theorem s_dget (hr : X.A.units + 1 < cLine) (h0 : ka ≠ 1) (h1 : kc ≠ 1) {apos : Pos} (hb : baseE x = true) (hp : plainE y = true) (hp2 : plainE z = true) (hl : (apos.endLine == pos.line) = true) (ha : PE X x (tK X P W ka a)) (hy : PE X y (tK X P W kb b)) (hz : PE X z (tK X P W kc c)) :
    PE X (.Call (.Attribute x "get" apos) [y, z] [] pos) (tK X P W 0 (.dget a b c)) :=
  PE.imp (pe_dget2 hr (stillE h0 ha) (weakE hy) (stillE h1 hz) (m2_of hb hp hp2 hl)) fun σ H Q ⟨B, G, ρ, er, q⟩ => by
    simp only [ev] at q
    refine bndE er q fun d v H1 G1 x1 r1 er1 q1 => ?_
    cases d with
    | dict kvs =>
      simp only [isDct, ok_bind] at q1
      cases r1 with
      | dct hR hr =>
        refine ⟨_, rfl, .inl ⟨_, rd_keep er1.sub hR⟩, bndE er1 q1 fun e w H2 G2 x2 r2 er2 q2 => ?_⟩
        cases e with
        | str s =>
          have := RW.str r2; subst this
          simp only [strD, ok_bind] at q2
          refine bndE er2 q2 fun e w H3 G3 x3 r3 er3 q3 => ?_
          refine ⟨_, .inl ⟨_, .inr s, rd_keep (x2.trans x3).all (rd_keep er1.sub hR), rfl, rfl⟩, ?_⟩
          rcases lk_valV (x := s) hr with ⟨v, d, e1, e2, e3⟩ | ⟨e1, e2⟩
          · rw [e1]
            rw [e2] at q3
            exact Fin.flat er3.sub (Fin.of q3) (e3.mono (x2.trans x3).stl)
          · rw [e1]
            rw [e2] at q3
            exact Fin.flat er3.sub (Fin.of q3) r3
        | _ => exact q2.elim
    | _ => exact q1.elim
theorem loc_of {N : List Str} {sc : Scope} {x : Str} (h : locB sc x = true) : sc.names.lookup x = some .local := of_decide_eq_true h
theorem getD_set {ρ : En} : True := trivial
theorem ER.set {B H G : Hp} {ρ : En} {σ : L2.St} {v : V} {d : Dat} (er : ER X.K B ρ σ H G) (r : Rep X.K G v d) (i : Nat) : ER X.K B (ρ.set i (.fz d)) (σ.set i (some v)) H G := by
  refine ⟨er.bas, er.sub, by simp [er.len], fun j s e => ?_⟩
  by_cases h : i = j
  · subst h
    have hi : i < ρ.length := by
      have := (List.getElem?_eq_some_iff.mp e).1
      simpa using this
    rw [List.getElem?_set_self hi] at e
    cases e
    exact ⟨some v, List.getElem?_set_self (by rw [← er.len]; exact hi), v, rfl, r⟩
  · rw [List.getElem?_set_ne h] at e
    obtain ⟨o, h1, h2⟩ := er.at_ j s e
    exact ⟨o, by rw [List.getElem?_set_ne h]; exact h1, h2⟩
/-- a tuple's items, one by one -/
def gAll : List Nat → TGs
  | [] => gNil
  | i :: r => gCons (gName i) (gAll r)
theorem pgs_all {nd : X.N.Nodup} : ∀ {is : List Nat} {es : List Expr}, is.length = es.length → ((is.zip es).all fun p => match p.2 with
    | .Name x _ => decide (X.N[p.1]? = some x) && locB X.env.scope x
    | _ => false) = true → PGs X es (gAll is) ∧ (assignEach es X.env).length = is.length ∧ (assignEach es X.env).findIdx? (·.1) = none
  | [], [], _, _ => ⟨pgs_nil, rfl, rfl⟩
  | [], _ :: _, h, _ => by simp at h
  | _ :: _, [], h, _ => by simp at h
  | i :: is, e :: es, hl, h => by
    rw [List.zip_cons_cons, List.all_cons, Bool.and_eq_true] at h
    obtain ⟨i1, i2, i3⟩ := pgs_all (nd := nd) (is := is) (es := es) (by simpa using hl) h.2
    cases e <;> try (exact absurd h.1 Bool.false_ne_true)
    rename_i x p
    have h1 : X.N[i]? = some x ∧ locB X.env.scope x = true := by simpa using h.1
    refine ⟨pgs_cons (pg_name nd h1.1 (.inl (loc_of (N := X.N) h1.2)) (.inr (loc_of (N := X.N) h1.2))) i1 rfl, ?_, ?_⟩
    · show (assignEach es X.env).length + 1 = is.length + 1
      rw [i2]
    · show List.findIdx? (·.1) ((false, _) :: assignEach es X.env) = none
      rw [List.findIdx?_cons, i3]
      rfl
/-- a target's reading -/
def tG (K : PySem.W.Frag) : Tg → TG
  | .nm i => gName i
  | .tp is => gTup K is.length (gAll is)
theorem s_g {tg : Tg} (calm : X.calm = true) (nd : X.N.Nodup) (h : okG X.N X.env.scope tg x = true) : PG X x (tG X.K tg) := by
  cases tg with
  | nm i =>
    cases x <;> simp only [okG] at h <;> try (cases h; done)
    simp only [Bool.and_eq_true, decide_eq_true_eq] at h
    exact pg_name nd h.1 (.inl (loc_of (N := X.N) h.2)) (.inr (loc_of (N := X.N) h.2))
  | tp is =>
    cases x <;> simp only [okG] at h <;> try (cases h; done)
    rename_i es k p
    rw [Bool.and_eq_true] at h
    obtain ⟨i1, i2, i3⟩ := pgs_all (nd := nd) (of_decide_eq_true h.1) h.2
    exact pg_tup calm i1 i2 i3
/-- what a target does -/
theorem all_set {B H G : Hp} {Q : L2.St → Hp → Prop} : ∀ {is : List Nat} {vs : List V} {ds : List Dat} {ρ : En} {σ : L2.St}, ER X.K B ρ σ H G → Reps X.K G vs ds → ds.length = is.length →
    (∀ σ', ER X.K B ((is.zip ds).foldl (fun r p => r.set p.1 (.fz p.2)) ρ) σ' H G → (∀ j, j ∉ is → σ'[j]? = σ[j]?) → σ'.length = σ.length → Q σ' H) → gAll is vs σ H Q
  | [], vs, ds, ρ, σ, er, r, hl, c => by
    cases ds with
    | nil => cases r; exact ⟨rfl, c σ er (fun _ _ => rfl) rfl⟩
    | cons _ _ => simp at hl
  | i :: is, vs, ds, ρ, σ, er, r, hl, c => by
    cases ds with
    | nil => simp at hl
    | cons d ds =>
      cases r with
      | cons r t =>
        refine ⟨_, _, rfl, ?_⟩
        refine all_set (er.set r i) t (by simpa using hl) fun σ' er' k1 k2 => c σ' er' (fun j hj => ?_) (by rw [k2, List.length_set])
        rw [List.mem_cons, not_or] at hj
        rw [k1 j hj.2, List.getElem?_set_ne (fun e => hj.1 e.symm)]
/-- a slot that a target leaves -/
def tgNo (tg : Tg) (j : Nat) : Prop := match tg with
  | .nm i => j ≠ i
  | .tp is => j ∉ is
theorem g_set {B H G : Hp} {tg : Tg} {v : V} {d : Dat} {ρ ρ1 : En} {σ : L2.St} {Q : L2.St → Hp → Prop} (er : ER X.K B ρ σ H G) (r : Rep X.K G v d) (h : setT tg d ρ = .ok ρ1)
    (c : ∀ σ', ER X.K B ρ1 σ' H G → (∀ j, tgNo tg j → σ'[j]? = σ[j]?) → σ'.length = σ.length → Q σ' H) : tG X.K tg v σ H Q := by
  cases tg with
  | nm i =>
    simp only [setT] at h
    cases h
    exact c _ (er.set r i) (fun j hj => List.getElem?_set_ne (fun e => (show j ≠ i from hj) e.symm)) (List.length_set)
  | tp is =>
    cases d <;> simp only [setT] at h <;> try (cases h; done)
    rename_i ds
    split at h <;> cases h
    rename_i hl
    cases r with
    | tup q rr =>
      refine ⟨_, _, rfl, sqT_keep er.sub q, by rw [rr.length, hl], ?_⟩
      exact all_set er rr hl c
end
end NW
end

section
set_option maxHeartbeats 4000000
namespace NW
open PySem PySem.Spec PyProof.Rows L2

/-! ### what is walked -/
theorem ylds_list {K : PySem.W.Frag} {B G : Hp} {a : Addr} {vs : List V} {ds : List Dat} (q : SqL K G a vs) (r : Reps K G vs ds) : Ylds K B G (Itl K a) ds where
  go := fun i H G1 hi _ s1 s2 => by
    have hv : i < vs.length := by rw [r.length]; exact hi
    exact ⟨vs, vs[i], sqL_keep (s1.trans s2) q, by simp [hv]⟩
  stop := fun H G1 _ s1 s2 => ⟨vs, sqL_keep (s1.trans s2) q, by rw [r.length]; exact Nat.le_refl _⟩
  yld := fun i H G1 x H' hi _ s1 s2 y => by
    obtain ⟨e, y⟩ := y
    subst e
    obtain ⟨d, h1, h2⟩ := r.getV (y vs (sqL_keep (s1.trans s2) q))
    exact ⟨d, G1, h1, Ext.refl s2, h2.mono s1⟩
theorem ylds_lent {K : PySem.W.Frag} {B G : Hp} {a : Addr} {vs : List V} {ds : List Dat} (q : SqL K B a vs) (r : Reps K G vs ds) : Ylds K B G (Itl K a) ds where
  go := fun i H G1 hi s0 s1 s2 => by
    have hv : i < vs.length := by rw [r.length]; exact hi
    exact ⟨vs, vs[i], sqL_keep s0 q, by simp [hv]⟩
  stop := fun H G1 s0 s1 s2 => ⟨vs, sqL_keep s0 q, by rw [r.length]; exact Nat.le_refl _⟩
  yld := fun i H G1 x H' hi s0 s1 s2 y => by
    obtain ⟨e, y⟩ := y
    subst e
    obtain ⟨d, h1, h2⟩ := r.getV (y vs (sqL_keep s0 q))
    exact ⟨d, G1, h1, Ext.refl s2, h2.mono s1⟩
theorem ylds_tup {K : PySem.W.Frag} {B G : Hp} {a : Addr} {vs : List V} {ds : List Dat} (q : SqT K G a vs) (r : Reps K G vs ds) : Ylds K B G (Itt K a) ds where
  go := fun i H G1 hi _ s1 s2 => by
    have hv : i < vs.length := by rw [r.length]; exact hi
    exact ⟨vs, vs[i], sqT_keep (s1.trans s2) q, by simp [hv]⟩
  stop := fun H G1 _ s1 s2 => ⟨vs, sqT_keep (s1.trans s2) q, by rw [r.length]; exact Nat.le_refl _⟩
  yld := fun i H G1 x H' hi _ s1 s2 y => by
    obtain ⟨e, y⟩ := y
    subst e
    obtain ⟨d, h1, h2⟩ := r.getV (y vs (sqT_keep (s1.trans s2) q))
    exact ⟨d, G1, h1, Ext.refl s2, h2.mono s1⟩
theorem ylds_str {K : PySem.W.Frag} {B G : Hp} (x : Str) : Ylds K B G (Its x) (x.cps.toList.map fun c => PyData.str ⟨#[c]⟩) where
  go := fun i H G1 hi _ s1 s2 => by
    show i < x.cps.size
    simpa using hi
  stop := fun H G1 _ s1 s2 => by
    show x.cps.size ≤ _
    simp
  yld := fun i H G1 v H' hi _ s1 s2 y => by
    obtain ⟨e, c, hc, rfl⟩ := y
    subst e
    refine ⟨.str ⟨#[c]⟩, G1, ?_, Ext.refl s2, .str _⟩
    simp [hc]
theorem ylds_rng {K : PySem.W.Frag} {B G : Hp} (a : Int) (n : Nat) : Ylds K B G (Itr a n) (rngL a n) where
  go := fun i H G1 hi _ s1 s2 => by
    show i < n
    simpa [rngL] using hi
  stop := fun H G1 _ s1 s2 => by
    show n ≤ _
    simp [rngL]
  yld := fun i H G1 v H' hi _ s1 s2 y => by
    obtain ⟨e, rfl⟩ := y
    subst e
    have h : i < n := by simpa [rngL] using hi
    exact ⟨.int (a + i), G1, by simp [rngL, h], Ext.refl s2, .int _⟩
theorem PI.imp {X : Cx} {tg e : Expr} {t t' : TI} (h : PI X tg e t) (i : ∀ σ H R, t' σ H R → t σ H R) : PI X tg e t' := ⟨fun pins s σ H R I q => h.run pins s σ H R I (i σ H R q)⟩
theorem PI.or {X : Cx} {tg e : Expr} {t t' : TI} (h : PI X tg e t) (h' : PI X tg e t') : PI X tg e (fun σ H R => t σ H R ∨ t' σ H R) :=
  ⟨fun pins s σ H R I q => q.elim (h.run pins s σ H R I) (h'.run pins s σ H R I)⟩
section
variable {X : Cx} {T : Tx} {P : Pg} {n : Nat} {W : WX} {x y z tg : Expr} {pos : Pos} {a b c : E} {ka kb kc : Nat}
theorem s_seq (hk : ka ≠ 1) (ha : PE X x (tK X P W ka a)) : PI X tg x (tI X P W (.seq a)) := by
  have hs := stillE hk ha
  refine PI.imp (PI.or (pi_list hs) (PI.or (pi_tup hs) (pi_str hs))) fun σ H R ⟨B, G, ρ, er, q⟩ => ?_
  simp only [evI] at q
  cases e : ev P a ρ with
  | bad => rw [e] at q; exact q.elim
  | exc c z =>
    rw [e] at q
    refine .inl (show tK X P W 0 a σ H _ from ⟨B, G, ρ, er, ?_⟩)
    rw [e]
    exact q
  | ok d =>
    rw [e] at q
    cases d with
    | list ds =>
      refine .inl (show tK X P W 0 a σ H _ from ⟨B, G, ρ, er, ?_⟩)
      rw [e]
      intro v H' G' x1 r1
      obtain ⟨p, vs, rfl, q1, rr⟩ := RW.list x1.sub (.st r1)
      have r1' : Rep X.K G' (.ref p) (.list ds) := r1
      cases r1' with
      | lst q2 r2 => exact ⟨p, rfl, ⟨vs, q1⟩, q _ H' G' x1 (ylds_list q2 r2)⟩
    | tuple ds =>
      refine .inr (.inl (show tK X P W 0 a σ H _ from ⟨B, G, ρ, er, ?_⟩))
      rw [e]
      intro v H' G' x1 r1
      have r1' : Rep X.K G' v (.tuple ds) := r1
      cases r1' with
      | tup q2 r2 => exact ⟨_, rfl, ⟨_, sqT_keep x1.sub q2⟩, q _ H' G' x1 (ylds_tup q2 r2)⟩
    | str s =>
      refine .inr (.inr (show tK X P W 0 a σ H _ from ⟨B, G, ρ, er, ?_⟩))
      rw [e]
      intro v H' G' x1 r1
      have r1' : Rep X.K G' v (.str s) := r1
      cases r1' with
      | str => exact ⟨s, rfl, q _ H' G' x1 (ylds_str s)⟩
    | _ => exact q.elim
theorem s_lent {i : Nat} {nm : Str} (h : okI T n X.N X.env.scope (.lent i) (.Name nm pos) = true) : PI X tg (.Name nm pos) (tI X P W (.lent i)) := by
  simp only [okI, Bool.and_eq_true, decide_eq_true_eq] at h
  refine PI.imp (pi_list (pe_var h.1.1 (vis_of h.1.2) (okN_d h.2) (okN_c h.2))) fun σ H R ⟨B, G, ρ, er, q⟩ => ?_
  simp only [evI] at q
  cases e : getS ρ i with
  | ln ds =>
    rw [e] at q
    obtain ⟨o, h1, p, vs, rfl, h2, r⟩ := er.at_ i _ (getS_some e nofun)
    exact ⟨_, h1, p, rfl, ⟨vs, sqL_keep er.bas h2⟩, q _ H G (Ext.refl er.sub) (ylds_lent h2 r)⟩
  | un => rw [e] at q; exact q.elim
  | ow _ => rw [e] at q; exact q.elim
  | fz _ => rw [e] at q; exact q.elim
  | ex _ _ _ _ => rw [e] at q; exact q.elim
theorem s_own {i : Nat} {nm : Str} (h : okI T n X.N X.env.scope (.own i) (.Name nm pos) = true) : PI X tg (.Name nm pos) (tI X P W (.own i)) := by
  simp only [okI, Bool.and_eq_true, decide_eq_true_eq] at h
  refine PI.imp (pi_list (pe_var h.1.1 (vis_of h.1.2) (okN_d h.2) (okN_c h.2))) fun σ H R ⟨B, G, ρ, er, q⟩ => ?_
  simp only [evI] at q
  cases e : getS ρ i with
  | ow ds =>
    rw [e] at q
    obtain ⟨o, h1, p, vs, rfl, h2, ga, r⟩ := er.at_ i _ (getS_some e nofun)
    exact ⟨_, h1, p, rfl, ⟨vs, SqL.of h2⟩, q _ H G (Ext.refl er.sub) (ylds_lent (SqL.of h2) r)⟩
  | un => rw [e] at q; exact q.elim
  | ln _ => rw [e] at q; exact q.elim
  | fz _ => rw [e] at q; exact q.elim
  | ex _ _ _ _ => rw [e] at q; exact q.elim
theorem s_rng1 {f : Str} {np : Pos} (g : Gd X T P n W) (hf : f = ("range" : Str)) (h1 : glB X.env.scope f = true) (hp : plainE x = true) (ha : PE X x (tK X P W ka a)) : PI X tg (.Call (.Name f np) [x] [] pos) (tI X P W (.rng1 a)) := by
  subst hf
  have g1 : X.env.scope.names.lookup ("range" : Str) = some .globalImplicit := of_decide_eq_true h1
  refine PI.imp (pi_range1 g1 (g.blt _ (by decide +kernel)) (pa_cons (weakE ha) pa_nil (star_cons hp)) (star1 hp)) fun σ H R ⟨B, G, ρ, er, q⟩ => ?_
  simp only [evI] at q
  refine bndI er q fun d v H1 G1 x1 r1 er1 q1 => ?_
  cases d with
  | int j =>
    have := RW.int r1; subst this
    simp only at q1
    split at q1
    · rename_i hz
      unfold small62 at hz
      have hz := of_decide_eq_true hz
      exact ⟨j, rfl, hz.1, hz.2, q1 _ H1 G1 (Ext.refl er1.sub) (ylds_rng 0 j.toNat)⟩
    · exact q1.elim
  | _ => exact q1.elim
theorem s_rng2 {f : Str} {np : Pos} (g : Gd X T P n W) (hf : f = ("range" : Str)) (h1 : glB X.env.scope f = true) (hp : plainE x = true) (hp2 : plainE y = true) (ha : PE X x (tK X P W ka a)) (hb : PE X y (tK X P W kb b)) : PI X tg (.Call (.Name f np) [x, y] [] pos) (tI X P W (.rng2 a b)) := by
  subst hf
  have g1 : X.env.scope.names.lookup ("range" : Str) = some .globalImplicit := of_decide_eq_true h1
  refine PI.imp (pi_range2 g1 (g.blt _ (by decide +kernel)) (pa_cons (weakE ha) (pa_cons (weakE hb) pa_nil (star_cons hp2)) (star_cons hp)) (by rw [star_cons hp, star_cons hp2]; rfl) (star1 hp2)) fun σ H R ⟨B, G, ρ, er, q⟩ => ?_
  simp only [evI] at q
  refine bndI er q fun d v H1 G1 x1 r1 er1 q1 => ?_
  refine bndI er1 q1 fun e w H2 G2 x2 r2 er2 q2 => ?_
  cases d with
  | int i =>
    cases e with
    | int j =>
      have := RW.int r1; subst this
      have := RW.int r2; subst this
      simp only at q2
      split at q2
      · rename_i hz
        have hz := Bool.and_eq_true_iff.mp hz
        unfold small62 at hz
        have h3 := of_decide_eq_true hz.1
        have h4 := of_decide_eq_true hz.2
        exact ⟨i, j, rfl, ⟨h3.1, h3.2, h4.1, h4.2⟩, q2 _ H2 G2 (Ext.refl er2.sub) (ylds_rng i (j - i).toNat)⟩
      · exact q2.elim
    | _ => exact q2.elim
  | _ => cases e <;> exact q2.elim

/-! ### comprehensions -/
theorem wipe_get (σ : L2.St) : ∀ (vs : List Nat) (j : Nat), (wipe σ vs)[j]? = if j ∈ vs ∧ j < σ.length then some none else σ[j]?
  | [], j => by simp [wipe]
  | v :: vs, j => by
    unfold wipe
    have hl := wipe_length σ vs
    by_cases h : v = j
    · subst h
      by_cases hj : v < σ.length
      · rw [List.getElem?_set_self (by rw [hl]; exact hj), if_pos ⟨List.mem_cons_self, hj⟩]
      · rw [List.getElem?_eq_none (by rw [List.length_set, hl]; omega), if_neg (fun z => hj z.2), List.getElem?_eq_none (by omega)]
    · rw [List.getElem?_set_ne h, wipe_get σ vs j]
      have e : (j ∈ v :: vs ∧ j < σ.length) ↔ (j ∈ vs ∧ j < σ.length) := by
        rw [List.mem_cons]
        constructor
        · rintro ⟨z | z, k⟩
          · exact absurd z.symm h
          · exact ⟨z, k⟩
        · rintro ⟨z, k⟩; exact ⟨.inr z, k⟩
      simp only [e]
theorem unS_get (ρ : En) : ∀ (vs : List Nat) (j : Nat), (unS vs ρ)[j]? = if j ∈ vs ∧ j < ρ.length then some .un else ρ[j]?
  | [], j => by simp [unS]
  | v :: vs, j => by
    unfold unS
    have hl : ∀ vs : List Nat, (unS vs ρ).length = ρ.length := fun vs => by
      induction vs with
      | nil => rfl
      | cons v vs ih => unfold unS; rw [List.length_set, ih]
    by_cases h : v = j
    · subst h
      by_cases hj : v < ρ.length
      · rw [List.getElem?_set_self (by rw [hl]; exact hj), if_pos ⟨List.mem_cons_self, hj⟩]
      · rw [List.getElem?_eq_none (by rw [List.length_set, hl]; omega), if_neg (fun z => hj z.2), List.getElem?_eq_none (by omega)]
    · rw [List.getElem?_set_ne h, unS_get ρ vs j]
      have e : (j ∈ v :: vs ∧ j < ρ.length) ↔ (j ∈ vs ∧ j < ρ.length) := by
        rw [List.mem_cons]
        constructor
        · rintro ⟨z | z, k⟩
          · exact absurd z.symm h
          · exact ⟨z, k⟩
        · rintro ⟨z, k⟩; exact ⟨.inr z, k⟩
      simp only [e]
theorem unS_length (ρ : En) (vs : List Nat) : (unS vs ρ).length = ρ.length := by
  induction vs with
  | nil => rfl
  | cons v vs ih => unfold unS; rw [List.length_set, ih]
theorem ER.wipe {B H G : Hp} {ρ : En} {σ : L2.St} (er : ER X.K B ρ σ H G) (vs : List Nat) : ER X.K B (unS vs ρ) (wipe σ vs) H G := by
  refine ⟨er.bas, er.sub, by rw [unS_length, wipe_length, er.len], fun j s e => ?_⟩
  rw [unS_get] at e
  rw [wipe_get]
  by_cases h : j ∈ vs ∧ j < ρ.length
  · rw [if_pos h] at e
    cases e
    exact ⟨none, by rw [if_pos ⟨h.1, by rw [← er.len]; exact h.2⟩], trivial⟩
  · rw [if_neg h] at e
    rw [if_neg (by rw [← er.len]; exact h)]
    exact er.at_ j s e
theorem wipe_same {σ σ2 : L2.St} {vs : List Nat} (hl : σ2.length = σ.length) (h : ∀ j, j ∉ vs → σ2[j]? = (wipe σ vs)[j]?) : wipe σ2 vs = wipe σ vs := by
  refine List.ext_getElem? fun j => ?_
  rw [wipe_get]
  by_cases hj : j ∈ vs
  · rw [wipe_get]
    by_cases hz : j < σ.length
    · rw [if_pos ⟨hj, by omega⟩, if_pos ⟨hj, hz⟩]
    · rw [if_neg (fun z => hz (by omega)), if_neg (fun z => hz z.2), List.getElem?_eq_none (by omega), List.getElem?_eq_none (by omega)]
  · rw [if_neg (fun z => hj z.1)]
    exact h j hj
theorem lcL_ne {f : Dat → Res (Option Dat)} (hf : ∀ d c x, f d ≠ .exc c x) : ∀ (xs : List Dat) c x, lcL f xs ≠ .exc c x
  | [], c, x, h => by cases h
  | d :: ds, c, x, h => by
    simp only [lcL] at h
    cases q : f d with
    | ok o =>
      rw [q] at h
      cases q2 : lcL f ds with
      | ok r => simp only [ok_bind, q2] at h; cases h
      | exc c' x' => exact lcL_ne hf ds c' x' q2
      | bad => simp only [ok_bind, q2, bad_bind] at h; cases h
    | exc c' x' => exact hf _ _ _ q
    | bad => rw [q] at h; cases h
theorem lcL_cons {f : Dat → Res (Option Dat)} {d : Dat} {ds ys : List Dat} (h : lcL f (d :: ds) = .ok ys) : ∃ o r, f d = .ok o ∧ lcL f ds = .ok r ∧ ys = (match o with
    | some y => y :: r
    | none => r) := by
  simp only [lcL] at h
  cases q : f d with
  | ok o =>
    rw [q] at h
    cases q2 : lcL f ds with
    | ok r => simp only [ok_bind, q2] at h; cases h; exact ⟨o, r, rfl, rfl, rfl⟩
    | exc _ _ => simp only [ok_bind, q2] at h; cases h
    | bad => simp only [ok_bind, q2] at h; cases h
  | exc _ _ => rw [q] at h; cases h
  | bad => rw [q] at h; cases h
theorem noX_ne {α : Type} (r : Res α) (c : Str) (x : Option Dat) : noX r ≠ .exc c x := by cases r <;> intro h <;> cases h
theorem noX_ok' {α : Type} {r : Res α} {a : α} (h : noX r = .ok a) : r = .ok a := by cases r <;> cases h; rfl
theorem tg_in {own : List Nat} {tg : Tg} (h : tgIn own tg = true) {j : Nat} (hj : j ∉ own) : tgNo tg j := by
  cases tg with
  | nm i =>
    intro e
    subst e
    exact hj (by simpa [tgIn] using h)
  | tp is =>
    intro hm
    have h : is.all own.contains = true := h
    exact hj (by simpa using List.all_eq_true.mp h j hm)
/-- the test of a comprehension -/
def okIf (T : Tx) (n : Nat) (N : List Str) (sc : Scope) (tt : E) (ifs : List Expr) : Prop := match ifs with
  | [] => tt = .bl true
  | [c] => isIfe tt = false ∧ okE T n N sc tt c = true
  | _ => False
def tIfs (X : Cx) (P : Pg) (ifs : List Expr) (tt : E) : TT := match ifs with
  | [] => tYes
  | _ => tT X P (fun _ _ _ _ => False) tt
theorem c_lc {own : List Nat} {tg : Tg} {it : NW.It} {tt elt : E} {ifs : List Expr} {ke : Nat} (hin : tgIn own tg = true) (hk : ke ≠ 1) (hif : ifs = [] → tt = .bl true) (σ : L2.St) (H : Hp) (Q : VK) (h : tK X P W 2 (.lc own tg it tt elt) σ H Q) :
    tLc (tI X P W it) (tG X.K tg) (tIfs X P ifs tt) (tK X P (fun _ _ _ _ => False) ke elt) ((own.map fun i => (X.N.getD i "", i)).map (·.2)) σ H Q := by
  obtain ⟨B0, G, ρ, er0, q⟩ := h
  obtain ⟨B, hB, er⟩ : ∃ B, B = H ∧ ER X.K B ρ σ H G := ⟨H, rfl, er0.re⟩
  have eown : (own.map fun i => (X.N.getD i "", i)).map (·.2) = own := by
    rw [List.map_map]
    exact List.map_id' own
  rw [eown]
  simp only [ev] at q
  refine ⟨B, G, ρ, er, ?_⟩
  have hbi : bI it B H = B := by rw [hB, bI_self]
  rw [hbi]
  clear hbi hB
  cases qi : evI P it ρ with
  | exc c z => rw [qi] at q; exact q
  | bad => rw [qi] at q; exact q
  | ok xs =>
    rw [qi] at q
    simp only [ok_bind] at q
    split at q
    case isFalse => exact q.elim
    rename_i hz
    generalize hf : (fun x => noX (setT tg x (unS own ρ) >>= fun ρ1 => ev P tt ρ1 >>= fun t => truD t >>= fun r => match r with
        | true => ev P elt ρ1 >>= fun y => .ok (some y)
        | false => .ok none)) = f at q
    have hfn : ∀ d c x, f d ≠ .exc c x := fun d c x => by rw [← hf]; exact noX_ne _ _ _
    cases ql : lcL f xs with
    | exc c z => exact absurd ql (lcL_ne hfn xs c z)
    | bad => rw [ql] at q; exact q.elim
    | ok ys =>
      rw [ql] at q
      simp only [ok_bind] at q
      have fin := New.of2 (W := W) q
      clear q
      intro J H1 G1 x1 Y D nD
      have nGD : G1 D = none := x1.sub.free nD
      refine ⟨fun i m H' => m = xs.length - i ∧ i ≤ xs.length ∧ ∃ G' vs acc rest, Ext H1 G1 H' G' ∧ H' D = some (.lst vs) ∧ G' D = none ∧ Reps X.K G' vs acc ∧ vs.length ≤ i ∧ lcL f (xs.drop i) = .ok rest ∧ acc ++ rest = ys,
        ⟨xs.length, by simp, Nat.zero_le _, G1, [], [], ys, Ext.laid x1.sub nD _, upd_same, nGD, .nil, Nat.le_refl _, ql, rfl⟩, ?_⟩
      rintro i m H2 ⟨rfl, hi, G2, vs, acc, rest, x2, hD, gD, rr, hv, hl, hy⟩
      have er2 := er.ext (x1.trans x2)
      by_cases hlt : i < xs.length
      · refine .inr ⟨Y.go i H2 G2 hlt er2.bas x2.stl x2.sub, fun H' => i + 1 ≤ xs.length ∧ ∃ G' vs acc rest, Ext H1 G1 H' G' ∧ H' D = some (.lst vs) ∧ G' D = none ∧ Reps X.K G' vs acc ∧ vs.length ≤ i + 1 ∧ lcL f (xs.drop (i + 1)) = .ok rest ∧ acc ++ rest = ys,
          fun H' h => ⟨xs.length - (i + 1), by omega, rfl, h.1, h.2⟩, fun v H3 y => ?_⟩
        obtain ⟨d, G3, hd, x3, rd⟩ := Y.yld i H2 G2 v H3 hlt er2.bas x2.stl x2.sub y
        have edrop : xs.drop i = d :: xs.drop (i + 1) := by
          rw [List.drop_eq_getElem_cons hlt]
          have := (List.getElem?_eq_some_iff.mp hd).2
          rw [this]
        rw [edrop] at hl
        obtain ⟨o, r', fo, fr, hrest⟩ := lcL_cons hl
        rw [← hf] at fo
        have fo' := noX_ok' fo
        have er3 := (er2.ext x3).wipe own
        cases qs : setT tg d (unS own ρ) with
        | exc _ _ => rw [qs] at fo'; cases fo'
        | bad => rw [qs] at fo'; cases fo'
        | ok ρ1 =>
          rw [qs] at fo'
          simp only [ok_bind] at fo'
          have gD3 : G3 D = none := by
            cases q : G3 D with
            | none => rfl
            | some o =>
              rcases x3.new D (by rw [q]; simp) with z | z
              · exact absurd gD z
              · rw [hD] at z; cases z
          refine g_set er3 rd qs fun σ4 er4 k1 k2 => ⟨wipe_same (by rw [k2, wipe_length]) fun j hj => k1 j (tg_in hin hj), ?_⟩
          cases qt : ev P tt ρ1 with
          | exc _ _ => rw [qt] at fo'; cases fo'
          | bad => rw [qt] at fo'; cases fo'
          | ok t =>
            rw [qt] at fo'
            simp only [ok_bind] at fo'
            cases qb : truD t with
            | exc _ _ => rw [qb] at fo'; cases fo'
            | bad => rw [qb] at fo'; cases fo'
            | ok b =>
              rw [qb] at fo'
              simp only [ok_bind] at fo'
              have body : ∀ H5 G5, Ext H3 G3 H5 G5 → ER X.K B ρ1 σ4 H5 G5 → (if b = true then tK X P (fun _ _ _ _ => False) ke elt σ4 H5 (fun y H4 => ∃ acc, H4 D = some (.lst acc) ∧ acc.length < sizeLine ∧
                  (i + 1 ≤ xs.length ∧ ∃ G' vs acc' rest, Ext H1 G1 (upd H4 D (.lst (acc ++ [y]))) G' ∧ (upd H4 D (.lst (acc ++ [y]))) D = some (.lst vs) ∧ G' D = none ∧ Reps X.K G' vs acc' ∧ vs.length ≤ i + 1 ∧ lcL f (xs.drop (i + 1)) = .ok rest ∧ acc' ++ rest = ys))
                else (i + 1 ≤ xs.length ∧ ∃ G' vs acc' rest, Ext H1 G1 H5 G' ∧ H5 D = some (.lst vs) ∧ G' D = none ∧ Reps X.K G' vs acc' ∧ vs.length ≤ i + 1 ∧ lcL f (xs.drop (i + 1)) = .ok rest ∧ acc' ++ rest = ys)) := by
                intro H5 G5 x5 er5
                have xx := (x2.trans x3).trans x5
                have hD5 : H5 D = some (.lst vs) := x5.all _ _ (x3.all _ _ hD)
                have gD5 : G5 D = none := by
                  cases q : G5 D with
                  | none => rfl
                  | some o =>
                    rcases x5.new D (by rw [q]; simp) with z | z
                    · exact absurd gD3 z
                    · rw [x3.all _ _ hD] at z; cases z
                cases b with
                | false =>
                  rw [if_neg Bool.false_ne_true]
                  simp only at fo'
                  cases fo'
                  simp only at hrest
                  subst hrest
                  exact ⟨hlt, G5, vs, acc, _, xx, hD5, gD5, (rr.mono x3.stl).mono x5.stl, by omega, fr, hy⟩
                | true =>
                  rw [if_pos rfl]
                  simp only at fo'
                  refine tK_still hk ⟨B, G5, ρ1, er5, ?_⟩
                  cases qe : ev P elt ρ1 with
                  | exc _ _ => rw [qe] at fo'; cases fo'
                  | bad => rw [qe] at fo'; cases fo'
                  | ok e =>
                    rw [qe] at fo'
                    simp only [ok_bind] at fo'
                    cases fo'
                    simp only at hrest
                    subst hrest
                    intro w H6 G6 x6 r6
                    have r6 : Rep X.K G6 w e := r6
                    have hD6 : H6 D = some (.lst vs) := x6.all _ _ hD5
                    have gD6 : G6 D = none := by
                      cases q : G6 D with
                      | none => rfl
                      | some o =>
                        rcases x6.new D (by rw [q]; simp) with z | z
                        · exact absurd gD5 z
                        · rw [hD5] at z; cases z
                    refine ⟨vs, hD6, lt_line (by omega), hlt, G6, vs ++ [w], acc ++ [e], r', ?_, upd_same, gD6, (((rr.mono x3.stl).mono x5.stl).mono x6.stl).append (.cons r6 .nil), by rw [List.length_append]; simp; omega, fr, by rw [List.append_assoc]; exact hy⟩
                    have x7 := xx.trans x6
                    refine ⟨fun a o h => ?_, x7.stl, fun a o h => ?_, x7.new⟩
                    · rw [upd_ne (ne_of_none h nD)]; exact x7.all _ _ h
                    · rw [upd_ne (ne_of_none h gD6)]; exact x7.sub _ _ h
              match ifs, hif with
              | [], hif =>
                have e0 := hif rfl
                subst e0
                simp only [ev] at qt
                cases qt
                simp only [truD] at qb
                cases qb
                exact body H3 G3 (Ext.refl x3.sub) er4
              | c :: cs, hif =>
                refine ⟨B, G3, ρ1, er4, ?_⟩
                rw [qt]
                simp only [ok_bind]
                rw [qb]
                intro H5 G5 x5
                exact body H5 G5 x5 (er4.ext x5)
      · have e : i = xs.length := by omega
        subst e
        rw [List.drop_length] at hl
        simp only [lcL] at hl
        cases hl
        rw [List.append_nil] at hy
        subst hy
        refine .inl ⟨Y.stop H2 G2 er2.bas x2.stl x2.sub, ?_⟩
        exact fin D vs H2 G2 (x1.trans x2) (x1.all.free nD) gD hD rr
theorem s_lc {own : List Nat} {tg : Tg} {it : NW.It} {tt elt : E} {g iter : Expr} {ifs : List Expr} {scope : Scope} {ke : Nat} (gd : Gd X T P n W)
    (ok : blkC X.N X.env.scope scope (own.map fun i => (X.N.getD i "", i)) = true) (hin : tgIn own tg = true) (hp : plainE iter = true) (hk : ke ≠ 1) (hif : ifs = [] → tt = .bl true)
    (hi : PI X g iter (tI X P W it))
    (hg : ∀ (s : Shared) (H : Hp) (C : Addr) (cl : List (Str × Addr)) (fp : List Addr), PG (X.blk s H scope (compEnvC scope cl C X.env) fp) g (tG X.K tg))
    (ht : ∀ (s : Shared) (H : Hp) (C : Addr) (cl : List (Str × Addr)) (fp : List Addr), PTs (X.blk s H scope (compEnvC scope cl C X.env) fp) ifs (tIfs X P ifs tt))
    (he : ∀ (s : Shared) (H : Hp) (C : Addr) (cl : List (Str × Addr)) (fp : List Addr), PE (X.blk s H scope (compEnvC scope cl C X.env) fp) x (tK X P (fun _ _ _ _ => False) ke elt)) :
    PE X (.ListComp x [⟨g, iter, ifs, 0⟩] scope pos) (tK X P W 2 (.lc own tg it tt elt)) :=
  PE.imp (pe_lc (pos := pos) gd.calm gd.nd hi (blkOk_by ok) hg ht he (plain_fold hp)) (c_lc hin hk hif)
end
end NW
end

section
set_option maxHeartbeats 8000000
/-! an exception with a row, made and asked for its row -/
namespace NW
open PySem PySem.Spec PyProof.Rows L2
theorem passes0 {X : Cx} : Passes (L2.CX X.prog X.w) X (fun _ _ _ => False) := fun _ _ _ _ _ _ _ x => by
  obtain ⟨_, _, _, _, _, _, _, _, _, _, _, _, z⟩ := x
  exact z.elim
/-- what a made exception leaves -/
theorem made_row {K : PySem.W.Frag} {mg : Str → Option Value} {H G : Hp} {a C dx : Addr} {v : V} {d : Dat} {c : Str} (sm : Same G H) (na : H a = none) (nd : H dx = none) (hda : dx ≠ a) (hC : mg c = some (.ref C)) (r : Rep K G v d) :
    Ext H G (upd (L2.del (upd (upd (upd H a (exo a C none)) dx (exd dx [(("row" : Str), v)])) a (exo a C (some dx))) a) dx (.xd [(("row" : Str), v)])) G ∧
    XR K mg (upd (L2.del (upd (upd (upd H a (exo a C none)) dx (exd dx [(("row" : Str), v)])) a (exo a C (some dx))) a) dx (.xd [(("row" : Str), v)])) G (.ref C) (some dx) c (some d) := by
  have key : ∀ b o, H b = some o → upd (L2.del (upd (upd (upd H a (exo a C none)) dx (exd dx [(("row" : Str), v)])) a (exo a C (some dx))) a) dx (.xd [(("row" : Str), v)]) b = some o := fun b o e => by
    have hb : b ≠ dx := ne_of_none e nd
    have hb2 : b ≠ a := ne_of_none e na
    rw [upd_ne hb, L2.del_ne hb2, upd_ne hb2, upd_ne hb, upd_ne hb2]
    exact e
  exact ⟨⟨key, Same.refl G, fun b o e => key b o (sm _ _ e), fun b e => .inl e⟩, ⟨C, hC, rfl⟩, dx, v, rfl, upd_same, r⟩
theorem mk_row {K : PySem.W.Frag} {H : Hp} {C : Addr} {v : V} {Q : XK} (T : OexC K C) (hn : PySem.W.findIn K (.ref C) "row" = some none)
    (q : ∀ a dx, H a = none → H dx = none → dx ≠ a → Q (.ref C) (some dx) (upd (L2.del (upd (upd (upd H a (exo a C none)) dx (exd dx [(("row" : Str), v)])) a (exo a C (some dx))) a) dx (.xd [(("row" : Str), v)]))) :
    [v].length ≤ 1000 ∧ ∀ a, H a = none → spInit K (.ref a :: ([v] ++ [])) (upd H a (exo a C none)) (fun u H2 => u = .non ∧ ∃ (d : Addr) (fs : List (Str × V)), H2 a = some (exo a C (some d)) ∧ H2 d = some (exd d fs) ∧ H d = none ∧ Q (.ref C) (some d) (upd (L2.del H2 a) d (.xd fs))) (fun _ _ _ => False) := by
  refine ⟨by simp, fun a na => ⟨a, C, v, rfl, T, hn, upd_same, fun dx nd hda => ⟨rfl, dx, [(("row" : Str), v)], upd_same, ?_, ?_, ?_⟩⟩⟩
  · rw [upd_ne hda, upd_same]
  · rw [upd_ne hda] at nd; exact nd
  · rw [upd_ne hda] at nd; exact q a dx na nd hda
theorem inv_grow {X : Cx} {pins : List (Addr × Obj)} {σ : L2.St} {H : Hp} {sI s' : Shared} (J : Inv X pins σ H sI) (k : ∀ b o, sI.heap.get? b = some o → s'.heap.get? b = some o) (os : s'.os = sI.os) (ag : AllBare s'.gens) : Inv X pins σ H s' :=
  J.call' (ch := []) os { keep := fun b o q n _ _ => k b o q
                          slot := fun b o q n _ _ => ⟨o.slots, k b o q⟩
                          free := fun b o q n _ => n
                          there := fun b o q _ => ⟨o, k b o q⟩
                          tups := fun b xs q => q
                          frzs := fun b o v q => q
                          tbls := fun b ps q => ⟨#[], by rw [q]; simp⟩ } (fun b o q => (J.hok b o q).stay (fun c v _ z => k c v z) (fun c h => h) (fun c xs h => h)) ag (fun b z => absurd z (by simp))
/-- C(e).f -/
def tNw (t : L2.St → Hp → XK → Prop) (C : Addr) (f : Str) : TE := fun σ H Q => t σ H fun cls d H' => cls = .ref C ∧ ∃ (dd : Addr) (fs : List (Str × V)) (v : V), d = some dd ∧ H' dd = some (.xd fs) ∧ fs.lookup f = some v ∧ Q v H'
theorem pe_nw {X : Cx} {C : Addr} {e : Expr} {t : L2.St → Hp → XK → Prop} {pos : Pos} {n : Str} (T : XfC X.K C) (hno : PySem.W.findIn X.K (.ref C) n = some none) (he : PMk X e t) (hb : attributeBase e n X.env (eval e X.env) = eval e X.env := by rfl) :
    PE X (.Attribute e n pos) (tNw t C n) := by
  refine ⟨fun pins s σ H Q I h => ?_⟩
  refine attr_of hb (thn (he pins s σ H _ I h) fun u s1 hh => ?_)
  obtain ⟨a, oe, vs, sI, H', cls, d, ea, J, k, hne, ha, hz, hd, h1, na, os, ag, r, ec, dd, fs, v, ed, ex, l, q⟩ := hh
  subst ea
  subst ec
  subst ed
  have I1 : Inv X pins σ H' s1 := inv_grow J k os ag
  have hx : ObjOk X.prog X.w H' s1.heap dd (.xd fs) := I1.hok dd _ ex
  obtain ⟨mA, hns, hr⟩ := hx
  obtain ⟨od, ho, hl⟩ := lookIn_ns hns
  obtain ⟨u, hu, ru⟩ := RelO.some_of (v := v) (o := mA n) (by rw [← l]; exact hr n)
  have I2 : PySem.W.InstAt s1.heap a oe C (some od) := ⟨ha, hz.1, by unfold PySem.W.notCls; rw [hd] <;> rfl, by rw [hz.2]; exact ho⟩
  exact HandSPX.exc_get I1.kIn I2 T.ga T.gg T.exC (PySem.W.findObj_own T.hdC hno rfl (by rw [hl, hu])) (handed_of ru) ⟨v, H', I1.tok _, ru, q⟩
section
variable {T : Tx} {P : Pg} {n : Nat} {X : Cx} {W : WX} {y : Expr}
theorem s_nrw {c : Str} {e : E} {np cp rp : Pos} (g : Gd X T P n W) (hg : glB X.env.scope c = true) (ho : okN c = true) (hx : T.exr.contains c = true) (hn : 2 ≤ n) (hp : plainE y = true) (hk : kd T e ≠ 1) (he : PE X y (tK X P W (kd T e) e)) :
    PE X (.Attribute (.Call (.Name c np) [y] [] cp) "row" rp) (tK X P W 0 (.nrw c e)) := by
  obtain ⟨C, h1, fI, fd, r1, r2, r3, r4, r5, r6, r7, r8⟩ := g.exr c (List.contains_iff_mem.mp hx)
  have hg' : X.env.scope.names.lookup c = some .globalImplicit := of_decide_eq_true hg
  refine PE.imp (pe_nw r8 r2 (pmk_oex r1 r3 r4 r5 (g.room.mono hn) r7 .nil passes0 hg' h1 (pa_cons (stillE hk he) pa_nil (star_cons hp)) (okN_d ho) (star_cons hp) rfl) rfl) fun σ H Q ⟨B, G, ρ, er, q⟩ => ?_
  simp only [ev] at q
  refine ⟨B, G, ρ, er, ?_⟩
  cases e1 : ev P e ρ with
  | ok d =>
    rw [e1] at q
    intro v H1 G1 x1 rv
    refine mk_row (H := H1) (v := v) (Q := fun cls d H' => cls = .ref C ∧ ∃ (dd : Addr) (fs : List (Str × V)) (v : V), d = some dd ∧ H' dd = some (.xd fs) ∧ fs.lookup ("row" : Str) = some v ∧ Q v H') r1 r2 fun a dx na nd hda => ?_
    obtain ⟨m1, m2⟩ := made_row (mg := X.mg) (c := c) (er.ext x1).sub na nd hda h1 rv
    exact ⟨rfl, dx, [(("row" : Str), v)], v, rfl, upd_same, by simp [List.lookup], q v _ G1 (x1.trans m1) rv⟩
  | exc z w => rw [e1] at q; exact q
  | bad => rw [e1] at q; exact q
end
end NW
end

section
set_option maxHeartbeats 8000000
namespace NW
open PySem PySem.Spec PyProof.Rows L2

section
variable {T : Tx} {P : Pg} {n : Nat}
theorem Snd.plain {X : Cx} {W : WX} {e : E} {x : Expr} (ht : tstE x = true) (h : PE X x (tK X P W (kd T e) e)) : Snd X T P W e x :=
  ⟨h, fun _ => s_tst ht h, fun op vs pos z => by subst z; simp [tstE] at ht⟩
mutual
theorem snd_E : ∀ (e : E) (X : Cx) (W : WX) (x : Expr), Gd X T P n W → okE T n X.N X.env.scope e x = true → Snd X T P W e x
  | .var i, X, W, x, g, h => by
    cases x with
    | Name nm pos => exact .plain rfl (s_var h)
    | _ => simp [okE] at h
  | .tv i, X, W, x, g, h => by
    cases x with
    | Name nm pos => exact .plain rfl (s_tv h)
    | _ => simp [okE] at h
  | .non, X, W, x, g, h => by
    cases x with
    | Constant c k pos =>
      cases c with
      | none => exact .plain rfl (s_lit (d := .none) pe_non (fun _ => by simp only [ev]) fun _ => .non)
      | _ => simp [okE] at h
    | _ => simp [okE] at h
  | .bl b, X, W, x, g, h => by
    cases x with
    | Constant c k pos =>
      cases c with
      | bool c =>
        simp only [okE, beq_iff_eq] at h
        subst h
        exact .plain rfl (s_lit (d := .bool b) pe_bl (fun _ => by simp only [ev]) fun _ => .bl b)
      | _ => simp [okE] at h
    | _ => simp [okE] at h
  | .int i, X, W, x, g, h => by
    cases x with
    | Constant c k pos =>
      cases c with
      | int c =>
        simp only [okE, beq_iff_eq] at h
        subst h
        exact .plain rfl (s_lit (d := .int i) pe_int (fun _ => by simp only [ev]) fun _ => .int i)
      | _ => simp [okE] at h
    | _ => simp [okE] at h
  | .str i, X, W, x, g, h => by
    cases x with
    | Constant c k pos =>
      cases c with
      | str c =>
        simp only [okE, decide_eq_true_eq] at h
        subst h
        exact .plain rfl (s_lit (d := .str i) pe_str (fun _ => by simp only [ev]) fun _ => .str i)
      | _ => simp [okE] at h
    | _ => simp [okE] at h
  | .con k, X, W, x, g, h => by
    cases x with
    | Name nm pos =>
      simp only [okE, Bool.and_eq_true, decide_eq_true_eq] at h
      obtain ⟨u, v, h1, h2, h3⟩ := g.cons k nm h.1.1
      have g1 : X.env.scope.names.lookup nm = some .globalImplicit := of_decide_eq_true h.1.2
      exact .plain rfl (s_lit (d := P.C k) (pe_glob g1 h1 h2 (okN_d h.2)) (fun _ => by simp only [ev]) h3)
    | _ => simp [okE] at h
  | .bin o a b, X, W, x, g, h => by
    cases x with
    | BinOp p op q pos =>
      simp only [okE, Bool.and_eq_true, decide_eq_true_eq] at h
      obtain ⟨⟨rfl, ha⟩, hb⟩ := h
      exact .plain rfl (s_bin (snd_E a X W _ g ha).pe (snd_E b X W _ g hb).pe)
    | _ => simp [okE] at h
  | .neg a, X, W, x, g, h => by
    cases x with
    | UnaryOp op p pos =>
      cases op with
      | USub =>
        simp only [okE] at h
        have z := s_neg (pos := pos) (snd_E a X W _ g h).pe
        exact ⟨z, fun _ => PT.imp (pt_truth (weakE z) (fun _ => rfl)) fun σ H Q ⟨B, G, ρ, er, q⟩ => by
          refine bndT er q fun d v H1 G1 x1 r1 er1 q1 => ?_
          cases h1 : truD d with
          | ok r => rw [h1] at q1; exact ⟨r, tru_of er1.sub r1 h1, q1 H1 G1 (Ext.refl er1.sub)⟩
          | exc c z => exact absurd h1 (tru_ne d c z)
          | bad => rw [h1] at q1; exact q1.elim, fun _ _ _ e => by cases e⟩
      | _ => simp [okE] at h
    | _ => simp [okE] at h
  | .cmp o a b, X, W, x, g, h => by
    cases x with
    | Compare p ops qs pos =>
      match ops, qs, h with
      | [op], [q], h =>
        simp only [okE, Bool.and_eq_true, decide_eq_true_eq] at h
        obtain ⟨⟨⟨rfl, hp⟩, ha⟩, hb⟩ := h
        exact ⟨s_cmp g.room hp (snd_E a X W _ g ha).pe (snd_E b X W _ g hb).pe, fun _ => s_cmpT g.room hp (snd_E a X W _ g ha).pe (snd_E b X W _ g hb).pe, fun _ _ _ e => by cases e⟩
      | [], _, h => simp [okE] at h
      | _ :: _ :: _, _, h => simp [okE] at h
      | [_], [], h => simp [okE] at h
      | [_], _ :: _ :: _, h => simp [okE] at h
    | _ => simp [okE] at h
  | .chn o p' a b c, X, W, x, g, h => by
    cases x with
    | Compare p ops qs pos =>
      match ops, qs, h with
      | [op, op'], [q, r], h =>
        simp only [okE, Bool.and_eq_true, decide_eq_true_eq] at h
        obtain ⟨⟨⟨⟨⟨rfl, rfl⟩, hp⟩, ha⟩, hb⟩, hc⟩ := h
        exact ⟨s_chn g.room hp (snd_E a X W _ g ha).pe (snd_E b X W _ g hb).pe (snd_E c X W _ g hc).pe, fun _ => s_chnT g.room hp (snd_E a X W _ g ha).pe (snd_E b X W _ g hb).pe (snd_E c X W _ g hc).pe, fun _ _ _ e => by cases e⟩
      | [], _, h => simp [okE] at h
      | [_], _, h => simp [okE] at h
      | _ :: _ :: _ :: _, _, h => simp [okE] at h
      | [_, _], [], h => simp [okE] at h
      | [_, _], [_], h => simp [okE] at h
      | [_, _], _ :: _ :: _ :: _, h => simp [okE] at h
    | _ => simp [okE] at h
  | .and a b, X, W, x, g, h => by
    cases x with
    | BoolOp op vs pos =>
      match op, vs, h with
      | .And, p :: q :: r, h =>
        simp only [okE, Bool.and_eq_true, Bool.not_eq_true', bne_iff_ne] at h
        obtain ⟨⟨⟨⟨⟨i1, i2⟩, k1⟩, k2⟩, ha⟩, hb⟩ := h
        have A := snd_E a X W p g ha
        have PW' : PE X (.BoolOp .And (q :: r) pos) (tK X P W (kd T b) b) ∧ PW X (.BoolOp .And (q :: r) pos) (tT X P W b) := by
          match r, hb with
          | [], hb =>
            have Bb := snd_E b X W q g hb
            exact ⟨pe_one Bb.pe, pw_and1 (Bb.pt i2)⟩
          | s :: r, hb =>
            have Bb := snd_E b X W _ g hb
            exact ⟨Bb.pe, Bb.pw _ _ _ rfl⟩
        have w := w_and (A.pt i1) PW'.2
        exact ⟨s_and k1 k2 A.pe PW'.1, fun _ => w.pt, fun _ _ _ e => by cases e; exact w⟩
      | .Or, _, h => simp [okE] at h
      | .And, [], h => simp [okE] at h
      | .And, [_], h => simp [okE] at h
    | _ => simp [okE] at h
  | .or a b, X, W, x, g, h => by
    cases x with
    | BoolOp op vs pos =>
      match op, vs, h with
      | .Or, p :: q :: r, h =>
        simp only [okE, Bool.and_eq_true, Bool.not_eq_true', bne_iff_ne] at h
        obtain ⟨⟨⟨⟨⟨i1, i2⟩, k1⟩, k2⟩, ha⟩, hb⟩ := h
        have A := snd_E a X W p g ha
        have PW' : PE X (.BoolOp .Or (q :: r) pos) (tK X P W (kd T b) b) ∧ PW X (.BoolOp .Or (q :: r) pos) (tT X P W b) := by
          match r, hb with
          | [], hb =>
            have Bb := snd_E b X W q g hb
            exact ⟨pe_one Bb.pe, pw_or1 (Bb.pt i2)⟩
          | s :: r, hb =>
            have Bb := snd_E b X W _ g hb
            exact ⟨Bb.pe, Bb.pw _ _ _ rfl⟩
        have w := w_or (A.pt i1) PW'.2
        exact ⟨s_or k1 k2 A.pe PW'.1, fun _ => w.pt, fun _ _ _ e => by cases e; exact w⟩
      | .And, _, h => simp [okE] at h
      | .Or, [], h => simp [okE] at h
      | .Or, [_], h => simp [okE] at h
    | _ => simp [okE] at h
  | .not a, X, W, x, g, h => by
    cases x with
    | UnaryOp op p pos =>
      cases op with
      | Not =>
        simp only [okE, Bool.and_eq_true, Bool.not_eq_true'] at h
        have A := snd_E a X W p g h.2
        exact ⟨s_not A.pe, fun _ => s_notT (A.pt h.1), fun _ _ _ e => by cases e⟩
      | _ => simp [okE] at h
    | _ => simp [okE] at h
  | .ife c a b, X, W, x, g, h => by
    cases x with
    | IfExp t p q pos =>
      simp only [okE, Bool.and_eq_true, Bool.not_eq_true', bne_iff_ne] at h
      obtain ⟨⟨⟨⟨⟨i1, hc⟩, ha⟩, hb⟩, k1⟩, k2⟩ := h
      exact ⟨s_ife k1 k2 ((snd_E c X W _ g hc).pt i1) (snd_E a X W _ g ha).pe (snd_E b X W _ g hb).pe, fun z => by simp [isIfe] at z, fun _ _ _ e => by cases e⟩
    | _ => simp [okE] at h
  | .ix a i, X, W, x, g, h => by
    cases x with
    | Subscript p q pos =>
      simp only [okE, Bool.and_eq_true] at h
      exact .plain rfl (s_ix h.1.1 (snd_E a X W _ g h.1.2).pe (snd_E i X W _ g h.2).pe)
    | _ => simp [okE] at h
  | .sl a lo hi, X, W, x, g, h => by
    cases x with
    | Subscript p q pos =>
      cases q with
      | Slice l u st p2 =>
        cases st with
        | none =>
          simp only [okE, Bool.and_eq_true] at h
          obtain ⟨⟨ha, hl⟩, hh⟩ := h
          have A := (snd_E a X W _ g ha).pe
          exact .plain rfl (s_sl A (s_po hl fun l z => (snd_E lo X W l g z).pe) (s_po hh fun l z => (snd_E hi X W l g z).pe))
        | some _ => simp [okE] at h
      | _ => simp [okE] at h
    | _ => simp [okE] at h
  | .no, X, W, x, g, h => by cases x <;> simp [okE] at h
  | .iss _ _ _ _ _, X, W, x, g, h => by cases x <;> simp [okE] at h
  | .xrw _ _ _ _, X, W, x, g, h => by cases x <;> simp [okE] at h
  | .nrw c e, X, W, x, g, h => by
    cases x with
    | Attribute b a pos =>
      cases b with
      | Call f xs kws cpos =>
        cases f with
        | Name nm np =>
          match xs, kws, h with
          | [y], [], h =>
            simp only [okE, Bool.and_eq_true, decide_eq_true_eq, bne_iff_ne] at h
            obtain ⟨⟨⟨⟨⟨⟨⟨⟨rfl, rfl⟩, h3⟩, h4⟩, h5⟩, h6⟩, h7⟩, h8⟩, h9⟩ := h
            exact .plain rfl (s_nrw g h3 h4 h5 h6 h7 h8 (snd_E e X W y g h9).pe)
          | [], _, h => simp [okE] at h
          | _ :: _ :: _, _, h => simp [okE] at h
          | [_], _ :: _, h => simp [okE] at h
        | _ => simp [okE] at h
      | _ => simp [okE] at h
    | _ => simp [okE] at h
  | .tup es, X, W, x, g, h => by
    cases x with
    | Tuple xs k pos =>
      simp only [okE] at h
      exact .plain rfl (s_tup (snd_A es X W _ _ g h))
    | _ => simp [okE] at h
  | .lst es, X, W, x, g, h => by
    cases x with
    | List xs pos =>
      simp only [okE] at h
      exact .plain rfl (s_lst (snd_A es X W _ _ g h))
    | _ => simp [okE] at h
  | .cal k es, X, W, x, g, h => by
    cases x with
    | Call f xs kws pos =>
      cases f with
      | Name nm np =>
        match xs, kws, h with
        | y :: ys, [], h =>
          simp only [okE] at h
          cases hs : T.fns[k]? with
          | none => rw [hs] at h; cases h
          | some sg =>
            rw [hs] at h
            simp only [Bool.and_eq_true, decide_eq_true_eq] at h
            obtain ⟨⟨⟨⟨⟨⟨⟨h1, h2⟩, h3⟩, h4⟩, h5⟩, h51⟩, hcl⟩, h6⟩ := h
            have z := s_cal (pos := pos) (np := np) g hs h1 h2 h3 h4 h51 hcl h5 (okEs_len h6) (okEs_plain h6) (snd_A es X W _ _ g h6)
            have e : kd T (.cal k es) = sg.fr := by simp only [kd, hs]
            exact .plain rfl (by rw [e]; exact z)
        | [], _, h => simp [okE] at h
        | _ :: _, _ :: _, h => simp [okE] at h
      | _ => simp [okE] at h
    | _ => simp [okE] at h
  | .calk k es w e, X, W, x, g, h => by
    cases x with
    | Call f xs kws pos =>
      cases f with
      | Name nm np =>
        match xs, kws, h with
        | y :: ys, [⟨a, z, kp⟩], h =>
          simp only [okE] at h
          cases hs : T.fns[k]? with
          | none => rw [hs] at h; cases h
          | some sg =>
            rw [hs] at h
            simp only [Bool.and_eq_true, decide_eq_true_eq, beq_iff_eq, bne_iff_ne] at h
            obtain ⟨⟨⟨⟨⟨⟨⟨⟨⟨⟨⟨⟨h1, h2⟩, h3⟩, h4⟩, h5⟩, h6⟩, rfl⟩, h8⟩, hcl⟩, h9⟩, h10⟩, h11⟩, h12⟩ := h
            exact .plain rfl (s_calk (pos := pos) (np := np) g hs h1 h2 h3 h4 h6 hcl h5 h8 (okEs_len h9) (okEs_plain h9) (snd_A es X W _ _ g h9) (stillE h12 (snd_E e X W z g h11).pe))
        | [], _, h => simp [okE] at h
        | _ :: _, [], h => simp [okE] at h
        | _ :: _, _ :: _ :: _, h => simp [okE] at h
      | _ => simp [okE] at h
    | _ => simp [okE] at h
  | .bi f es, X, W, x, g, h => by
    cases x with
    | Call fn xs kws pos =>
      cases fn with
      | Name nm np =>
        match xs, kws, h with
        | y :: ys, [], h =>
          simp only [okE, Bool.and_eq_true, decide_eq_true_eq] at h
          obtain ⟨⟨⟨rfl, h2⟩, h3⟩, h4⟩ := h
          exact .plain rfl (s_bi g h2 h3 (okEs_plain h4) (snd_A es X W _ _ g h4))
        | [], _, h => simp [okE] at h
        | _ :: _, _ :: _, h => simp [okE] at h
      | _ => simp [okE] at h
    | _ => simp [okE] at h
  | .isi t a, X, W, x, g, h => by
    cases x with
    | Call fn xs kws pos =>
      cases fn with
      | Name nm np =>
        match xs, kws, h with
        | [], _, h => simp [okE] at h
        | [_], _, h => simp [okE] at h
        | _ :: _ :: _ :: _, _, h => simp [okE] at h
        | [_, _], _ :: _, h => simp [okE] at h
        | [y, w], [], h =>
          cases w with
          | Name z zp =>
            simp only [okE, Bool.and_eq_true, decide_eq_true_eq] at h
            obtain ⟨⟨⟨⟨⟨⟨h1, h2⟩, h3⟩, h4⟩, h5⟩, h6⟩, h7⟩ := h
            exact .plain rfl (s_isi g h1 h2 h3 h4 h5 h6 (snd_E a X W _ g h7).pe)
          | _ => simp [okE] at h
      | _ => simp [okE] at h
    | _ => simp [okE] at h
  | .m0 m a, X, W, x, g, h => by
    cases x with
    | Call fn xs kws pos =>
      cases fn with
      | Attribute o f apos =>
        match xs, kws, h with
        | [], [], h =>
          simp only [okE, Bool.and_eq_true, decide_eq_true_eq] at h
          obtain ⟨⟨⟨rfl, h2⟩, h3⟩, h4⟩ := h
          exact .plain rfl (s_m0 h2 h3 (snd_E a X W _ g h4).pe)
        | [], _ :: _, h => simp [okE] at h
        | _ :: _, _, h => simp [okE] at h
      | _ => simp [okE] at h
    | _ => simp [okE] at h
  | .m1 m a b, X, W, x, g, h => by
    cases x with
    | Call fn xs kws pos =>
      cases fn with
      | Attribute o f apos =>
        match xs, kws, h with
        | [y], [], h =>
          simp only [okE, Bool.and_eq_true, decide_eq_true_eq] at h
          obtain ⟨⟨⟨⟨⟨rfl, h2⟩, h3⟩, h4⟩, h5⟩, h6⟩ := h
          exact .plain rfl (s_m1 h2 h3 h4 (snd_E a X W _ g h5).pe (snd_E b X W _ g h6).pe)
        | [], _, h => simp [okE] at h
        | [_], _ :: _, h => simp [okE] at h
        | _ :: _ :: _, _, h => simp [okE] at h
      | _ => simp [okE] at h
    | _ => simp [okE] at h
  | .dc0, X, W, x, g, h => by
    cases x with
    | Dict ks vs pos =>
      match ks, vs, h with
      | [], [], h => exact .plain rfl s_dc0
      | [], _ :: _, h => simp [okE] at h
      | _ :: _, _, h => simp [okE] at h
    | _ => simp [okE] at h
  | .dc1 a b, X, W, x, g, h => by
    cases x with
    | Dict ks vs pos =>
      match ks, vs, h with
      | [some y], [z], h =>
        simp only [okE, Bool.and_eq_true, bne_iff_ne] at h
        exact .plain rfl (s_dc1 h.2 (snd_E a X W _ g h.1.1).pe (snd_E b X W _ g h.1.2).pe)
      | [], _, h => simp [okE] at h
      | [none], _, h => simp [okE] at h
      | [some _], [], h => simp [okE] at h
      | [some _], _ :: _ :: _, h => simp [okE] at h
      | _ :: _ :: _, _, h => simp [okE] at h
    | _ => simp [okE] at h
  | .dget a b c, X, W, x, g, h => by
    cases x with
    | Call f as kws pos =>
      cases f with
      | Attribute y m apos =>
        match as, kws, h with
        | [u, v], [], h =>
          simp only [okE, Bool.and_eq_true, bne_iff_ne, decide_eq_true_eq] at h
          obtain ⟨⟨⟨⟨⟨⟨⟨⟨⟨rfl, h1⟩, h2⟩, h3⟩, h4⟩, h5⟩, h6⟩, h7⟩, h8⟩, h9⟩ := h
          exact .plain rfl (s_dget (hu_of g.room) h9 h8 h1 h2 h3 h4 (snd_E a X W _ g h5).pe (snd_E b X W _ g h6).pe (snd_E c X W _ g h7).pe)
        | [], _, h => simp [okE] at h
        | [_], _, h => simp [okE] at h
        | _ :: _ :: _ :: _, _, h => simp [okE] at h
        | [_, _], _ :: _, h => simp [okE] at h
      | _ => simp [okE] at h
    | _ => simp [okE] at h
  | .lc own tg it tt elt, X, W, x, g, h => by
    cases x with
    | ListComp y cs scope pos =>
      match cs, h with
      | [⟨tg', iter, ifs, asy⟩], h =>
        simp only [okE, Bool.and_eq_true, bne_iff_ne, decide_eq_true_eq] at h
        obtain ⟨⟨⟨⟨⟨⟨⟨⟨rfl, h1⟩, h2⟩, h3⟩, h4⟩, h5⟩, h6⟩, h7⟩, h8⟩ := h
        have hif : ifs = [] → tt = .bl true := fun e => by
          subst e
          have h7' : tyes tt = true := h7
          cases tt <;> simp [tyes] at h7'
          subst h7'
          rfl
        refine .plain rfl (s_lc g h1 h2 h3 h6 hif (snd_I it X W _ _ g h4) (fun s H C cl fp => s_g (X := X.blk s H scope (compEnvC scope cl C X.env) fp) g.calm g.nd h5) (fun s H C cl fp => ?_)
          (fun s H C cl fp => (snd_E elt (X.blk s H scope (compEnvC scope cl C X.env) fp) _ _ (g.blk s H scope _ fp) h8).pe))
        match ifs, h7 with
        | [], _ => exact pts_nil
        | [c], h7 =>
          simp only [Bool.and_eq_true, Bool.not_eq_true'] at h7
          exact pts_one ((snd_E tt (X.blk s H scope (compEnvC scope cl C X.env) fp) _ _ (g.blk s H scope _ fp) h7.2).pt h7.1)
        | _ :: _ :: _, h7 => cases h7
      | [], h => simp [okE] at h
      | _ :: _ :: _, h => simp [okE] at h
    | _ => simp [okE] at h
theorem snd_A : ∀ (es : Es) (X : Cx) (W : WX) (ws : List Bool) (xs : List Expr), Gd X T P n W → okEs T n X.N X.env.scope ws es xs = true → PA X xs (tA X P W ws es)
  | .nil, X, W, ws, xs, g, h => by
    cases xs with
    | nil =>
      exact PA.imp pa_nil fun σ H Q ⟨B, G, ρ, er, q⟩ => by
        simp only [evs] at q
        exact q [] H G (Ext.refl er.sub) .nil
    | cons _ _ => simp [okEs] at h
  | .cons e r, X, W, ws, xs, g, h => by
    cases xs with
    | nil => simp [okEs] at h
    | cons x xs =>
      simp only [okEs, Bool.and_eq_true, Bool.or_eq_true, bne_iff_ne] at h
      obtain ⟨⟨⟨h1, h2⟩, h3⟩, h4⟩ := h
      have A := (snd_E e X W _ g h2).pe
      have R := snd_A r X W _ _ g h4
      by_cases hw : ws.headD false = true
      · refine PA.imp (pa_cons (weakE A) R (star_cons h1)) fun σ H Q ⟨B, G, ρ, er, q⟩ => ?_
        simp only [evs] at q
        refine bndA er q fun d v H1 G1 x1 r1 er1 q1 => ?_
        refine ⟨B, G1, ρ, er1, ?_⟩
        cases e1 : evs P r ρ with
        | ok ds =>
          rw [e1] at q1
          intro vs H2 G2 x2 r2
          exact q1 (v :: vs) H2 G2 x2 (.cons (by rw [if_pos hw]; exact RW.ext x2 r1) r2)
        | exc c z => rw [e1] at q1; exact q1
        | bad => rw [e1] at q1; exact q1
      · have hk : kd T e ≠ 1 := h3.resolve_right hw
        refine PA.imp (pa_cons (stillE hk A) R (star_cons h1)) fun σ H Q ⟨B, G, ρ, er, q⟩ => ?_
        simp only [evs] at q
        refine bndA er q fun d v H1 G1 x1 r1 er1 q1 => ?_
        refine ⟨B, G1, ρ, er1, ?_⟩
        cases e1 : evs P r ρ with
        | ok ds =>
          rw [e1] at q1
          intro vs H2 G2 x2 r2
          exact q1 (v :: vs) H2 G2 x2 (.cons (by rw [if_neg hw]; exact Rep.mono x2.stl r1) r2)
        | exc c z => rw [e1] at q1; exact q1
        | bad => rw [e1] at q1; exact q1
theorem snd_I : ∀ (it : NW.It) (X : Cx) (W : WX) (tg x : Expr), Gd X T P n W → okI T n X.N X.env.scope it x = true → PI X tg x (tI X P W it)
  | .seq e, X, W, tg, x, g, h => by
    simp only [okI, Bool.and_eq_true, bne_iff_ne] at h
    exact s_seq h.2 (snd_E e X W _ g h.1).pe
  | .lent i, X, W, tg, x, g, h => by
    cases x with
    | Name nm pos => exact s_lent h
    | _ => simp [okI] at h
  | .own i, X, W, tg, x, g, h => by
    cases x with
    | Name nm pos => exact s_own h
    | _ => simp [okI] at h
  | .rng1 a, X, W, tg, x, g, h => by
    cases x with
    | Call fn xs kws pos =>
      cases fn with
      | Name nm np =>
        match xs, kws, h with
        | [y], [], h =>
          simp only [okI, Bool.and_eq_true, decide_eq_true_eq] at h
          obtain ⟨⟨⟨h1, h2⟩, h3⟩, h4⟩ := h
          exact s_rng1 g h1 h2 h3 (snd_E a X W _ g h4).pe
        | [], _, h => simp [okI] at h
        | [_], _ :: _, h => simp [okI] at h
        | _ :: _ :: _, _, h => simp [okI] at h
      | _ => simp [okI] at h
    | _ => simp [okI] at h
  | .rng2 a b, X, W, tg, x, g, h => by
    cases x with
    | Call fn xs kws pos =>
      cases fn with
      | Name nm np =>
        match xs, kws, h with
        | [y, z], [], h =>
          simp only [okI, Bool.and_eq_true, decide_eq_true_eq] at h
          obtain ⟨⟨⟨⟨⟨h1, h2⟩, h3⟩, h4⟩, h5⟩, h6⟩ := h
          exact s_rng2 g h1 h2 h3 h4 (snd_E a X W _ g h5).pe (snd_E b X W _ g h6).pe
        | [], _, h => simp [okI] at h
        | [_], _, h => simp [okI] at h
        | [_, _], _ :: _, h => simp [okI] at h
        | _ :: _ :: _ :: _, _, h => simp [okI] at h
      | _ => simp [okI] at h
    | _ => simp [okI] at h
end
end
end NW
end

section
set_option maxHeartbeats 8000000
/-! Statements: the look, the readings, that they hold. -/
namespace NW
open PySem PySem.Spec PyProof.Rows L2

def isLc : Expr → Bool
  | .ListComp _ _ _ _ => true
  | .SetComp _ _ _ _ => true
  | .DictComp _ _ _ _ _ => true
  | _ => false
def isTup : Expr → Bool
  | .Tuple _ _ _ => true
  | _ => false
/-- a store of a comprehension into a name -/
def lcSwap (sc : Scope) (x : Str) (py : Pos) : Expr → Bool
  | .ListComp _ _ scope pos => (locB sc x && (py.line == pos.line) && !(scope.names.any fun (n, k) => n == x && (k == .local || k == .cell))) || decide (sc.names.lookup x = some .cell)
  | .SetComp _ _ _ _ => false
  | .DictComp _ _ _ _ _ => false
  | _ => true
def stoB (sc : Scope) (x : Str) : Bool := match sc.names.lookup x with
  | some .local => true
  | some .cell => true
  | _ => false
def isNon : E → Bool
  | .non => true
  | _ => false
/-- a target of a loop or a store: a cell, too -/
def okGS (N : List Str) (sc : Scope) : Tg → Expr → Bool
  | .nm i, .Name x _ => decide (N[i]? = some x) && stoB sc x
  | .tp is, .Tuple es _ _ => decide (is.length = es.length) && (is.zip es).all fun p => match p.2 with
    | .Name x _ => decide (N[p.1]? = some x) && stoB sc x
    | _ => false
  | _, _ => false
/-- a name -/
def nmE (x : Str) : Expr → Bool
  | .Name y _ => decide (y = x)
  | _ => false
theorem nmE_ok {x : Str} {e : Expr} (h : nmE x e = true) : ∃ p, e = .Name x p := by
  cases e <;> simp only [nmE] at h <;> try (cases h; done)
  have h := of_decide_eq_true h
  subst h
  exact ⟨_, rfl⟩
def strC : Expr → Bool
  | .Constant c _ _ => (match c with
    | .str _ => true
    | _ => false)
  | _ => false
theorem strC_ok {e : Expr} (h : strC e = true) : ∃ m k p, e = .Constant (.str m) k p := by
  cases e <;> simp only [strC] at h <;> try (cases h; done)
  rename_i c k p
  cases c <;> simp only at h <;> try (cases h; done)
  exact ⟨_, _, _, rfl⟩
/-- c('m') -/
def mk1 (c : Str) : Expr → Bool
  | .Call f as kws _ => nmE c f && (match as with
    | [a] => strC a
    | _ => false) && kws.isEmpty
  | _ => false
theorem mk1_ok {c : Str} {e : Expr} (h : mk1 c e = true) : ∃ np m k p2 cp, e = .Call (.Name c np) [.Constant (.str m) k p2] [] cp := by
  cases e <;> simp only [mk1] at h <;> try (cases h; done)
  rename_i f as kws cp
  rw [Bool.and_eq_true, Bool.and_eq_true] at h
  obtain ⟨⟨h1, h2⟩, h3⟩ := h
  obtain ⟨np, rfl⟩ := nmE_ok h1
  cases as with
  | nil => cases h2
  | cons a r =>
    cases r with
    | cons _ _ => cases h2
    | nil =>
      obtain ⟨m, k, p2, rfl⟩ := strC_ok h2
      cases kws with
      | cons _ _ => cases h3
      | nil => exact ⟨_, _, _, _, _, rfl⟩
def rais1 (c : Str) : Stmt → Bool
  | .Raise e u _ => (match e with
    | some e => mk1 c e
    | none => false) && u.isNone
  | _ => false
theorem rais1_ok {c : Str} {st : Stmt} (h : rais1 c st = true) : ∃ np m k p2 cp pos, st = .Raise (some (.Call (.Name c np) [.Constant (.str m) k p2] [] cp)) none pos := by
  cases st <;> simp only [rais1] at h <;> try (cases h; done)
  rename_i e u pos
  rw [Bool.and_eq_true] at h
  cases e with
  | none => cases h.1
  | some e =>
    obtain ⟨np, m, k, p2, cp, rfl⟩ := mk1_ok h.1
    cases u with
    | some _ => cases h.2
    | none => exact ⟨_, _, _, _, _, _, rfl⟩
/-- x = e -/
def asg1 : Stmt → Option (Str × Expr)
  | .Assign ts y _ => (match ts with
    | [t] => (match t with
      | .Name z _ => some (z, y)
      | _ => none)
    | _ => none)
  | _ => none
theorem asg1_ok {st : Stmt} {z : Str} {y : Expr} (h : asg1 st = some (z, y)) : ∃ zp pos, st = .Assign [.Name z zp] y pos := by
  cases st <;> simp only [asg1] at h <;> try (cases h; done)
  rename_i ts w pos
  cases ts with
  | nil => cases h
  | cons t r =>
    cases r with
    | cons _ _ => cases h
    | nil =>
      cases t <;> simp only at h <;> try (cases h; done)
      cases h
      exact ⟨_, _, rfl⟩
def asgL : List Stmt → Option (Str × Expr)
  | [s] => asg1 s
  | _ => none
theorem asgL_ok {b : List Stmt} {z : Str} {y : Expr} (h : asgL b = some (z, y)) : ∃ zp pos, b = [.Assign [.Name z zp] y pos] := by
  cases b with
  | nil => cases h
  | cons s r =>
    cases r with
    | cons _ _ => cases h
    | nil =>
      obtain ⟨zp, pos, rfl⟩ := asg1_ok (st := s) h
      exact ⟨_, _, rfl⟩
def exp1 : Stmt → Option Expr
  | .Expr y _ => some y
  | _ => none
def expr1 : List Stmt → Option Expr
  | [s] => exp1 s
  | _ => none
theorem expr1_ok {b : List Stmt} {y : Expr} (h : expr1 b = some y) : ∃ p, b = [.Expr y p] := by
  cases b with
  | nil => cases h
  | cons s r =>
    cases r with
    | cons _ _ => cases h
    | nil =>
      have h' : exp1 s = some y := h
      cases s <;> simp only [exp1] at h' <;> try (cases h'; done)
      cases h'
      exact ⟨_, rfl⟩
/-- isinstance(x, C) -/
def isC1 (x : Str) : Expr → Option Str
  | .Call f as kws _ => (match as with
    | [a, b] => if nmE "isinstance" f && nmE x a && kws.isEmpty then (match b with
      | .Name C _ => some C
      | _ => none) else none
    | _ => none)
  | _ => none
theorem isC1_ok {x C : Str} {e : Expr} (h : isC1 x e = some C) : ∃ np xp cp pos, e = .Call (.Name "isinstance" np) [.Name x xp, .Name C cp] [] pos := by
  cases e <;> simp only [isC1] at h <;> try (cases h; done)
  rename_i f as kws pos
  cases as with
  | nil => cases h
  | cons a r =>
    cases r with
    | nil => cases h
    | cons b r =>
      cases r with
      | cons _ _ => cases h
      | nil =>
        simp only at h
        split at h
        · rename_i q
          rw [Bool.and_eq_true, Bool.and_eq_true] at q
          obtain ⟨np, rfl⟩ := nmE_ok q.1.1
          obtain ⟨xp, rfl⟩ := nmE_ok q.1.2
          cases kws with
          | cons _ _ => cases q.2
          | nil =>
            cases b <;> simp only at h <;> try (cases h; done)
            cases h
            exact ⟨_, _, _, _, rfl⟩
        · cases h
def isCs (x : Str) : List Expr → Option (List Str)
  | [] => some []
  | e :: r => match isC1 x e, isCs x r with
    | some C, some Cs => some (C :: Cs)
    | _, _ => none
def tupE : Expr → Option (List Expr)
  | .Tuple xs _ _ => some xs
  | _ => none
theorem tupE_ok {e : Expr} {xs : List Expr} (h : tupE e = some xs) : ∃ k p, e = .Tuple xs k p := by
  cases e <;> simp only [tupE] at h <;> try (cases h; done)
  cases h
  exact ⟨_, _, rfl⟩
/-- z + (..) -/
def addT (z : Str) : Expr → Option (List Expr)
  | .BinOp a o b _ => if nmE z a && decide (o = .Add) then tupE b else none
  | _ => none
theorem addT_ok {z : Str} {e : Expr} {xs : List Expr} (h : addT z e = some xs) : ∃ zp k p pos, e = .BinOp (.Name z zp) .Add (.Tuple xs k p) pos := by
  cases e <;> simp only [addT] at h <;> try (cases h; done)
  split at h
  · rename_i q
    rw [Bool.and_eq_true, decide_eq_true_eq] at q
    obtain ⟨zp, rfl⟩ := nmE_ok q.1
    obtain ⟨k, p, rfl⟩ := tupE_ok h
    rw [q.2]
    exact ⟨_, _, _, _, rfl⟩
  · cases h
/-- z = (..); z = z + (..) -/
def two1 : List Stmt → Option (Str × List Expr × List Expr)
  | [s1, s2] => (match asg1 s1, asg1 s2 with
    | some (z, a), some (z', b) => (match tupE a, addT z b with
      | some xs, some ys => if z = z' then some (z, xs, ys) else none
      | _, _ => none)
    | _, _ => none)
  | _ => none
theorem two1_ok {b : List Stmt} {z : Str} {xs ys : List Expr} (h : two1 b = some (z, xs, ys)) : ∃ zp k1 p1 a1 zp' zq k2 p2 p3 a2, b = [.Assign [.Name z zp] (.Tuple xs k1 p1) a1, .Assign [.Name z zp'] (.BinOp (.Name z zq) .Add (.Tuple ys k2 p2) p3) a2] := by
  cases b with
  | nil => cases h
  | cons s1 r =>
    cases r with
    | nil => cases h
    | cons s2 r =>
      cases r with
      | cons _ _ => cases h
      | nil =>
        simp only [two1] at h
        cases q1 : asg1 s1 with
        | none => rw [q1] at h; cases h
        | some p =>
          cases q2 : asg1 s2 with
          | none => rw [q1, q2] at h; cases h
          | some p' =>
            obtain ⟨za, a⟩ := p
            obtain ⟨zb, b⟩ := p'
            rw [q1, q2] at h
            simp only at h
            cases q3 : tupE a with
            | none => rw [q3] at h; cases h
            | some u =>
              cases q4 : addT za b with
              | none => rw [q3, q4] at h; cases h
              | some v =>
                rw [q3, q4] at h
                simp only at h
                split at h
                · rename_i e
                  cases h
                  subst e
                  obtain ⟨_, _, rfl⟩ := asg1_ok q1
                  obtain ⟨_, _, rfl⟩ := asg1_ok q2
                  obtain ⟨_, _, rfl⟩ := tupE_ok q3
                  obtain ⟨_, _, _, _, rfl⟩ := addT_ok q4
                  exact ⟨_, _, _, _, _, _, _, _, _, _, rfl⟩
                · cases h
/-- except c as x: .. -/
def hdA (c : Str) : ExceptHandler → Option (Str × List Stmt)
  | .ExceptHandler t n b _ => (match t, n with
    | some t, some n => if nmE c t then some (n, b) else none
    | _, _ => none)
theorem hdA_ok {c x : Str} {h : ExceptHandler} {b : List Stmt} (e : hdA c h = some (x, b)) : ∃ np hp, h = .ExceptHandler (some (.Name c np)) (some x) b hp := by
  cases h with
  | ExceptHandler t n b' pos =>
    cases t with
    | none => cases e
    | some t =>
      cases n with
      | none => cases e
      | some n =>
        simp only [hdA] at e
        split at e
        · rename_i q
          obtain ⟨np, rfl⟩ := nmE_ok q
          cases e
          exact ⟨_, _, rfl⟩
        · cases e
def tryA (c : Str) : Stmt → Option (List Stmt × Str × List Stmt)
  | .Try b hs o f _ => (match hs with
    | [h] => if o.isEmpty && f.isEmpty then (match hdA c h with
      | some p => some (b, p)
      | none => none) else none
    | _ => none)
  | _ => none
theorem tryA_ok {c : Str} {st : Stmt} {b s : List Stmt} {x : Str} (e : tryA c st = some (b, x, s)) : ∃ np hp tp, st = .Try b [.ExceptHandler (some (.Name c np)) (some x) s hp] [] [] tp := by
  cases st <;> simp only [tryA] at e <;> try (cases e; done)
  rename_i b' hs o f tp
  cases hs with
  | nil => cases e
  | cons h r =>
    cases r with
    | cons _ _ => cases e
    | nil =>
      simp only at e
      split at e
      · rename_i q
        rw [Bool.and_eq_true] at q
        cases o with
        | cons _ _ => cases q.1
        | nil =>
          cases f with
          | cons _ _ => cases q.2
          | nil =>
            cases qh : hdA c h with
            | none => rw [qh] at e; cases e
            | some p =>
              rw [qh] at e
              cases e
              obtain ⟨np, hp, rfl⟩ := hdA_ok qh
              exact ⟨_, _, _, rfl⟩
      · cases e
/-- except c: z = w -/
def hd1 (c : Str) : ExceptHandler → Option (Str × Expr)
  | .ExceptHandler t n b _ => (match t with
    | some t => if nmE c t && n.isNone then asgL b else none
    | none => none)
theorem hd1_ok {c : Str} {h : ExceptHandler} {z : Str} {w : Expr} (e : hd1 c h = some (z, w)) : ∃ np zp ap hp, h = .ExceptHandler (some (.Name c np)) none [.Assign [.Name z zp] w ap] hp := by
  cases h with
  | ExceptHandler t n b pos =>
    cases t with
    | none => cases e
    | some t =>
      simp only [hd1] at e
      split at e
      · rename_i q
        rw [Bool.and_eq_true] at q
        obtain ⟨np, rfl⟩ := nmE_ok q.1
        cases n with
        | some _ => cases q.2
        | none =>
          obtain ⟨zp, ap, rfl⟩ := asgL_ok e
          exact ⟨_, _, _, _, rfl⟩
      · cases e
def try1 (c : Str) : Stmt → Option (List Stmt × Str × Expr)
  | .Try b hs o f _ => (match hs with
    | [h] => if o.isEmpty && f.isEmpty then (match hd1 c h with
      | some p => some (b, p)
      | none => none) else none
    | _ => none)
  | _ => none
theorem try1_ok {c : Str} {st : Stmt} {b : List Stmt} {z : Str} {w : Expr} (e : try1 c st = some (b, z, w)) : ∃ np zp ap hp tp, st = .Try b [.ExceptHandler (some (.Name c np)) none [.Assign [.Name z zp] w ap] hp] [] [] tp := by
  cases st <;> simp only [try1] at e <;> try (cases e; done)
  rename_i b' hs o f tp
  cases hs with
  | nil => cases e
  | cons h r =>
    cases r with
    | cons _ _ => cases e
    | nil =>
      simp only at e
      split at e
      · rename_i q
        rw [Bool.and_eq_true] at q
        cases o with
        | cons _ _ => cases q.1
        | nil =>
          cases f with
          | cons _ _ => cases q.2
          | nil =>
            cases qh : hd1 c h with
            | none => rw [qh] at e; cases e
            | some p =>
              rw [qh] at e
              cases e
              obtain ⟨np, zp, ap, hp, rfl⟩ := hd1_ok qh
              exact ⟨_, _, _, _, _, rfl⟩
      · cases e
/-- a value that is written as it is -/
def cstOk : E → Expr → Bool
  | .bl b, .Constant (.bool c) _ _ => b == c
  | .str x, .Constant (.str y) _ _ => decide (x = y)
  | .non, .Constant .none _ _ => true
  | _, _ => false
/-- which parts of a tuple are new lists -/
def flE (T : Tx) : Es → List Bool
  | .nil => []
  | .cons e r => (kd T e == 2) :: flE T r
/-- if c: b -/
def if1 : Stmt → Option (Expr × List Stmt)
  | .If c b [] _ => some (c, b)
  | _ => none
theorem if1_ok {st : Stmt} {c : Expr} {b : List Stmt} (h : if1 st = some (c, b)) : ∃ p, st = .If c b [] p := by
  cases st <;> simp only [if1] at h <;> try (cases h; done)
  rename_i c' b' o p
  cases o with
  | nil => cases h; exact ⟨_, rfl⟩
  | cons _ _ => cases h
def retY : Stmt → Option Expr
  | .Return y _ => y
  | _ => none
def ret1 : List Stmt → Option Expr
  | [s] => retY s
  | _ => none
theorem ret1_ok {b : List Stmt} {y : Expr} (h : ret1 b = some y) : ∃ p, b = [.Return (some y) p] := by
  cases b with
  | nil => cases h
  | cons s r =>
    cases r with
    | cons _ _ => cases h
    | nil =>
      have h' : retY s = some y := h
      cases s <;> simp only [retY] at h' <;> try (cases h'; done)
      subst h'
      exact ⟨_, rfl⟩
/-- x[k] -/
def subK (x : Str) (k : Nat) : Expr → Bool
  | .Subscript a b _ => nmE x a && (match b with
    | .Constant c _ _ => (match c with
      | .int i => i == (k : Nat)
      | _ => false)
    | _ => false)
  | _ => false
theorem subK_ok {x : Str} {k : Nat} {e : Expr} (h : subK x k e = true) : ∃ np j p2 pos, e = .Subscript (.Name x np) (.Constant (.int (k : Nat)) j p2) pos := by
  cases e <;> simp only [subK] at h <;> try (cases h; done)
  rename_i a b pos
  rw [Bool.and_eq_true] at h
  obtain ⟨h1, h2⟩ := h
  obtain ⟨np, rfl⟩ := nmE_ok h1
  cases b <;> simp only at h2 <;> try (cases h2; done)
  rename_i c j p2
  cases c <;> simp only at h2 <;> try (cases h2; done)
  have h2 := eq_of_beq h2
  subst h2
  exact ⟨_, _, _, _, rfl⟩
def strIs (s : Str) : Expr → Bool
  | .Constant c _ _ => (match c with
    | .str t => decide (t = s)
    | _ => false)
  | _ => false
theorem strIs_ok {s : Str} {e : Expr} (h : strIs s e = true) : ∃ k p, e = .Constant (.str s) k p := by
  cases e <;> simp only [strIs] at h <;> try (cases h; done)
  rename_i c k p
  cases c <;> simp only at h <;> try (cases h; done)
  have h := of_decide_eq_true h
  subst h
  exact ⟨_, _, rfl⟩
/-- x[k].append(a) or x[k].clear() -/
def chgE (x : Str) (k : Nat) : Expr → Option (Option Expr)
  | .Call f as kws cpos => (match f with
    | .Attribute t m apos => if subK x k t && (apos.endLine == cpos.line) && kws.isEmpty then (match as with
      | [a] => if decide (m = ("append" : Str)) && plainE a then some (some a) else none
      | [] => if decide (m = ("clear" : Str)) then some none else none
      | _ => none) else none
    | _ => none)
  | _ => none
theorem chgE_ok {x : Str} {k : Nat} {e : Expr} {o : Option Expr} (h : chgE x k e = some o) : ∃ t apos cpos, subK x k t = true ∧ (apos.endLine == cpos.line) = true ∧ ((∃ a, o = some a ∧ plainE a = true ∧ e = .Call (.Attribute t "append" apos) [a] [] cpos) ∨ (o = none ∧ e = .Call (.Attribute t "clear" apos) [] [] cpos)) := by
  cases e <;> simp only [chgE] at h <;> try (cases h; done)
  rename_i f as kws cpos
  cases f <;> simp only at h <;> try (cases h; done)
  rename_i t m apos
  split at h
  · rename_i q
    simp only [Bool.and_eq_true] at q
    obtain ⟨⟨q1, q2⟩, q3⟩ := q
    cases kws with
    | cons _ _ => cases q3
    | nil =>
      cases as with
      | nil =>
        simp only at h
        split at h
        · rename_i q
          cases h
          rw [of_decide_eq_true q]
          exact ⟨t, apos, cpos, q1, q2, .inr ⟨rfl, rfl⟩⟩
        · cases h
      | cons a r =>
        cases r with
        | cons _ _ => cases h
        | nil =>
          simp only at h
          split at h
          · rename_i q
            rw [Bool.and_eq_true] at q
            cases h
            rw [of_decide_eq_true q.1]
            exact ⟨t, apos, cpos, q1, q2, .inl ⟨a, rfl, q.2, rfl⟩⟩
          · cases h
  · cases h
/-- if c: u, or u alone -/
def if3 : Stmt → Option (Option Expr × Expr)
  | .If c b [] _ => (match expr1 b with
    | some u => some (some c, u)
    | none => none)
  | .Expr u _ => some (none, u)
  | _ => none
theorem if3_ok {st : Stmt} {c : Option Expr} {u : Expr} (h : if3 st = some (c, u)) : (∃ z p q, c = some z ∧ st = .If z [.Expr u p] [] q) ∨ (∃ p, c = none ∧ st = .Expr u p) := by
  cases st <;> simp only [if3] at h <;> try (cases h; done)
  · rename_i c' b' o p
    cases o with
    | cons _ _ => cases h
    | nil =>
      simp only at h
      cases q : expr1 b' with
      | none => rw [q] at h; cases h
      | some u' =>
        rw [q] at h
        cases h
        obtain ⟨p', rfl⟩ := expr1_ok q
        exact .inl ⟨_, _, _, rfl, rfl⟩
  · cases h
    exact .inr ⟨_, rfl, rfl⟩
def chgOk (T : Tx) (n : Nat) (N : List Str) (sc : Scope) : Option (Option Expr) → Option E → Bool
  | some (some a), some e => okE T n N sc e a
  | some none, none => true
  | _, _ => false
def condOk (T : Tx) (n : Nat) (N : List Str) (sc : Scope) (c2 : E) : Option Expr → Bool
  | some z => !isIfe c2 && okE T n N sc c2 z
  | none => tyes c2
/-- x = e; if c1: return r; if c2: x[k].append(..) -/
def okLease (T : Tx) (n : Nat) (N : List Str) (sc : Scope) (fr : Nat) (i : Nat) (e c1 r c2 : E) (k : Nat) (o : Option E) (s1 s2 s3 : Stmt) : Bool := match asg1 s1, if1 s2, if3 s3 with
  | some (x, y), some (z1, b1), some (z2, u) => decide (N[i]? = some x) && stoB sc x && visB sc x && okN x && !isLc y && okE T n N sc e y && (kd T e == 3) && !isIfe c1 && okE T n N sc c1 z1 && condOk T n N sc c2 z2 && (fr == 0) && chgOk T n N sc (chgE x k u) o && (match ret1 b1 with
    | some w => okE T n N sc r w && kd T r != 1
    | none => false)
  | _, _, _ => false
/-- try: return y except c: .. -/
def hdB (c : Str) : ExceptHandler → Bool
  | .ExceptHandler t n b _ => (match t with
    | some t => nmE c t && n.isNone && !b.isEmpty
    | none => false)
theorem hdB_ok {c : Str} {h : ExceptHandler} (e : hdB c h = true) : ∃ np b0 s hp, h = .ExceptHandler (some (.Name c np)) none (b0 :: s) hp := by
  cases h with
  | ExceptHandler t n b pos =>
    cases t with
    | none => cases e
    | some t =>
      simp only [hdB, Bool.and_eq_true, Bool.not_eq_true'] at e
      obtain ⟨⟨e1, e2⟩, e3⟩ := e
      obtain ⟨np, rfl⟩ := nmE_ok e1
      cases n with
      | some _ => cases e2
      | none =>
        cases b with
        | nil => cases e3
        | cons b0 s => exact ⟨_, _, _, _, rfl⟩
def tryB1 (c : Str) : Stmt → Option Expr
  | .Try b hs o f _ => (match hs with
    | [h] => if o.isEmpty && f.isEmpty && hdB c h then ret1 b else none
    | _ => none)
  | _ => none
theorem tryB1_ok {c : Str} {st : Stmt} {y : Expr} (e : tryB1 c st = some y) : ∃ p np b0 s hp tp, st = .Try [.Return (some y) p] [.ExceptHandler (some (.Name c np)) none (b0 :: s) hp] [] [] tp := by
  cases st <;> simp only [tryB1] at e <;> try (cases e; done)
  rename_i b' hs o f tp
  cases hs with
  | nil => cases e
  | cons h r =>
    cases r with
    | cons _ _ => cases e
    | nil =>
      simp only at e
      split at e
      · rename_i q
        simp only [Bool.and_eq_true] at q
        obtain ⟨⟨q1, q2⟩, q3⟩ := q
        cases o with
        | cons _ _ => cases q1
        | nil =>
          cases f with
          | cons _ _ => cases q2
          | nil =>
            obtain ⟨np, b0, s, hp, rfl⟩ := hdB_ok q3
            obtain ⟨p, rfl⟩ := ret1_ok e
            exact ⟨_, _, _, _, _, _, rfl⟩
      · cases e
def okEsL (T : Tx) (n : Nat) (N : List Str) (sc : Scope) (x : Str) : Es → List Expr → Bool
  | .nil, [e] => nmE x e
  | .cons e r, y :: ys => plainE y && okE T n N sc e y && kd T e != 1 && okEsL T n N sc x r ys
  | _, _ => false
def nmOf : Expr → Option Str
  | .Name x _ => some x
  | _ => none
theorem nmOf_ok {e : Expr} {x : Str} (h : nmOf e = some x) : ∃ p, e = .Name x p := by
  cases e <;> simp only [nmOf] at h <;> try (cases h; done)
  cases h
  exact ⟨_, rfl⟩
/-- c(a) -/
def mk2 : Expr → Option (Str × Expr)
  | .Call f as kws _ => (match as with
    | [a] => if kws.isEmpty then (match nmOf f with
      | some c => some (c, a)
      | none => none) else none
    | _ => none)
  | _ => none
theorem mk2_ok {e a : Expr} {c : Str} (h : mk2 e = some (c, a)) : ∃ np cp, e = .Call (.Name c np) [a] [] cp := by
  cases e <;> simp only [mk2] at h <;> try (cases h; done)
  rename_i f as kws cp
  cases as with
  | nil => cases h
  | cons b r =>
    cases r with
    | cons _ _ => cases h
    | nil =>
      simp only at h
      cases kws with
      | cons _ _ => cases h
      | nil =>
        rw [if_pos (show ([] : List Keyword).isEmpty = true from rfl)] at h
        cases q : nmOf f with
        | none => rw [q] at h; cases h
        | some c' =>
          rw [q] at h
          cases h
          obtain ⟨np, rfl⟩ := nmOf_ok q
          exact ⟨_, _, rfl⟩
/-- raise c(a) -/
def rais2 : Stmt → Option (Str × Expr)
  | .Raise e u _ => (match e with
    | some e => if u.isNone then mk2 e else none
    | none => none)
  | _ => none
theorem rais2_ok {st : Stmt} {c : Str} {a : Expr} (h : rais2 st = some (c, a)) : ∃ np cp pos, st = .Raise (some (.Call (.Name c np) [a] [] cp)) none pos := by
  cases st <;> simp only [rais2] at h <;> try (cases h; done)
  rename_i e u pos
  cases e with
  | none => cases h
  | some e =>
    simp only at h
    cases u with
    | some _ => cases h
    | none =>
      rw [if_pos (show (none : Option Expr).isNone = true from rfl)] at h
      obtain ⟨np, cp, rfl⟩ := mk2_ok h
      exact ⟨_, _, _, rfl⟩
/-- except c: raise d(v) -/
def hdX (c : Str) : ExceptHandler → Option (Str × Str)
  | .ExceptHandler t n b _ => (match t with
    | some t => if nmE c t && n.isNone then (match b with
      | [s] => (match rais2 s with
        | some (d, a) => (match nmOf a with
          | some v => some (d, v)
          | none => none)
        | none => none)
      | _ => none) else none
    | none => none)
theorem hdX_ok {c d v : Str} {h : ExceptHandler} (e : hdX c h = some (d, v)) : ∃ np hp rp vp cp pos, h = .ExceptHandler (some (.Name c np)) none [.Raise (some (.Call (.Name d rp) [.Name v vp] [] cp)) none pos] hp := by
  cases h with
  | ExceptHandler t n b hp =>
    cases t with
    | none => cases e
    | some t =>
      simp only [hdX] at e
      split at e
      · rename_i q
        rw [Bool.and_eq_true] at q
        obtain ⟨np, rfl⟩ := nmE_ok q.1
        cases n with
        | some _ => cases q.2
        | none =>
          cases b with
          | nil => cases e
          | cons s r =>
            cases r with
            | cons _ _ => cases e
            | nil =>
              simp only at e
              cases qr : rais2 s with
              | none => rw [qr] at e; cases e
              | some p =>
                obtain ⟨d', a⟩ := p
                rw [qr] at e
                simp only at e
                cases qn : nmOf a with
                | none => rw [qn] at e; cases e
                | some v' =>
                  rw [qn] at e
                  cases e
                  obtain ⟨vp, rfl⟩ := nmOf_ok qn
                  obtain ⟨rp, cp, pos, rfl⟩ := rais2_ok qr
                  exact ⟨_, _, _, _, _, _, rfl⟩
      · cases e
/-- try: return y except c: raise d(v) -/
def tryX1 (c : Str) : Stmt → Option (Expr × Str × Str)
  | .Try b hs o f _ => (match hs with
    | [h] => if o.isEmpty && f.isEmpty then (match ret1 b, hdX c h with
      | some y, some p => some (y, p)
      | _, _ => none) else none
    | _ => none)
  | _ => none
theorem tryX1_ok {c d v : Str} {st : Stmt} {y : Expr} (e : tryX1 c st = some (y, d, v)) : ∃ p np hp rp vp cp pos tp, st = .Try [.Return (some y) p] [.ExceptHandler (some (.Name c np)) none [.Raise (some (.Call (.Name d rp) [.Name v vp] [] cp)) none pos] hp] [] [] tp := by
  cases st <;> simp only [tryX1] at e <;> try (cases e; done)
  rename_i b hs o f tp
  cases hs with
  | nil => cases e
  | cons h r =>
    cases r with
    | cons _ _ => cases e
    | nil =>
      simp only at e
      split at e
      · rename_i q
        rw [Bool.and_eq_true] at q
        cases o with
        | cons _ _ => cases q.1
        | nil =>
          cases f with
          | cons _ _ => cases q.2
          | nil =>
            cases q1 : ret1 b with
            | none => rw [q1] at e; cases e
            | some y' =>
              cases q2 : hdX c h with
              | none => rw [q1, q2] at e; cases e
              | some p =>
                rw [q1, q2] at e
                cases e
                obtain ⟨_, rfl⟩ := ret1_ok q1
                obtain ⟨_, _, _, _, _, _, rfl⟩ := hdX_ok q2
                exact ⟨_, _, _, _, _, _, _, _, rfl⟩
      · cases e
/-- x.row -/
def rowA (x : Str) : Expr → Bool
  | .Attribute t m _ => nmE x t && decide (m = ("row" : Str))
  | _ => false
theorem rowA_ok {x : Str} {e : Expr} (h : rowA x e = true) : ∃ xp p, e = .Attribute (.Name x xp) "row" p := by
  cases e <;> simp only [rowA] at h <;> try (cases h; done)
  rename_i t m p
  rw [Bool.and_eq_true, decide_eq_true_eq] at h
  obtain ⟨xp, rfl⟩ := nmE_ok h.1
  rw [h.2]
  exact ⟨_, _, rfl⟩
/-- z = (x.row, isinstance(x, ..), ..) -/
def firstR (x : Str) (s : Stmt) : Option (Str × List Str) := match asg1 s with
  | some (z, e) => (match tupE e with
    | some (a :: xs) => if rowA x a then (match isCs x xs with
      | some n => some (z, n)
      | none => none) else none
    | _ => none)
  | none => none
theorem firstR_ok {x z : Str} {s : Stmt} {n : List Str} (h : firstR x s = some (z, n)) : ∃ zp xp rp xs k p pos, s = .Assign [.Name z zp] (.Tuple (.Attribute (.Name x xp) "row" rp :: xs) k p) pos ∧ isCs x xs = some n := by
  unfold firstR at h
  cases q1 : asg1 s with
  | none => rw [q1] at h; cases h
  | some p1 =>
    obtain ⟨z', e⟩ := p1
    rw [q1] at h
    simp only at h
    cases q2 : tupE e with
    | none => rw [q2] at h; cases h
    | some l =>
      rw [q2] at h
      cases l with
      | nil => cases h
      | cons a xs =>
        simp only at h
        split at h
        · rename_i qa
          cases q3 : isCs x xs with
          | none => rw [q3] at h; cases h
          | some n' =>
            rw [q3] at h
            cases h
            obtain ⟨zp, pos, rfl⟩ := asg1_ok q1
            obtain ⟨k, p, rfl⟩ := tupE_ok q2
            obtain ⟨xp, rp, rfl⟩ := rowA_ok qa
            exact ⟨_, _, _, _, _, _, _, rfl, q3⟩
        · cases h
/-- z = z + (isinstance(x, ..), ..); .. -/
def restR (x z : Str) : List Stmt → Option (List (List Str))
  | [] => some []
  | s :: r => match asg1 s with
    | some (z', e) => if z' = z then (match addT z e with
      | some xs => (match isCs x xs, restR x z r with
        | some n, some ns => some (n :: ns)
        | _, _ => none)
      | none => none) else none
    | none => none
theorem restR_ok {x z : Str} {s : Stmt} {r : List Stmt} {ms : List (List Str)} (h : restR x z (s :: r) = some ms) : ∃ zp zq xs k p pos pos2 n ns, s = .Assign [.Name z zp] (.BinOp (.Name z zq) .Add (.Tuple xs k p) pos) pos2 ∧ isCs x xs = some n ∧ restR x z r = some ns ∧ ms = n :: ns := by
  unfold restR at h
  cases q1 : asg1 s with
  | none => rw [q1] at h; cases h
  | some p1 =>
    obtain ⟨z', e⟩ := p1
    rw [q1] at h
    simp only at h
    split at h
    · rename_i ez
      subst ez
      cases q2 : addT z' e with
      | none => rw [q2] at h; cases h
      | some xs =>
        rw [q2] at h
        simp only at h
        cases q3 : isCs x xs with
        | none => rw [q3] at h; cases h
        | some n =>
          cases q4 : restR x z' r with
          | none => rw [q3, q4] at h; cases h
          | some ns =>
            rw [q3, q4] at h
            cases h
            obtain ⟨zp, pos2, rfl⟩ := asg1_ok q1
            obtain ⟨zq, k, p, pos, rfl⟩ := addT_ok q2
            exact ⟨_, _, _, _, _, _, _, _, _, rfl, q3, rfl, rfl⟩
    · cases h
def okTryR (T : Tx) (n : Nat) (N : List Str) (sc : Scope) (e : E) (c : Str) (i j : Nat) (ns : List (List Str)) (st : Stmt) : Bool := match tryA c st with
  | some (b, x, s) => (match expr1 b, s with
    | some y, s0 :: r => (match firstR x s0 with
      | some (z, n0) => (match restR x z r with
        | some nr => decide (ns = n0 :: nr) && !ns.flatten.isEmpty && glB sc c && okN c && (T.exs.contains c || T.exr.contains c) && !T.cl && !isLc y && okE T n N sc e y && decide (N[i]? = some x) && locB sc x && okN x && decide (N[j]? = some z) && stoB sc z && visB sc z && okN z && glB sc "isinstance" &&
          ns.flatten.all fun C => glB sc C && okN C
        | none => false)
      | none => false)
    | _, _ => false)
  | none => false
def isRais : Stmt → Bool
  | .Raise _ _ _ => true
  | _ => false
mutual
def okS (T : Tx) (n : Nat) (N : List Str) (sc : Scope) (fr : Nat) : S → Stmt → Bool
  | .set i e, .Assign [.Name x py] y _ => decide (N[i]? = some x) && stoB sc x && lcSwap sc x py y && okE T n N sc e y && kd T e != 1
  | .setO i e, .Assign [.Name x py] y _ => decide (N[i]? = some x) && stoB sc x && lcSwap sc x py y && okE T n N sc e y && kd T e == 2
  | .tup is e, .Assign [t] y _ => okGS N sc (.tp is) t && !isLc y && !isTup y && okE T n N sc e y && kd T e != 1
  | .app i e, .Expr (.Call (.Attribute (.Name x _) f apos) [y] [] cpos) _ => decide (N[i]? = some x) && visB sc x && okN x && decide (f = ("append" : Str)) && (apos.endLine == cpos.line) && plainE y && okE T n N sc e y && kd T e != 1
  | .rev i, .Expr (.Call (.Attribute (.Name x _) f apos) [] [] cpos) _ => decide (N[i]? = some x) && visB sc x && okN x && decide (f = ("reverse" : Str)) && (apos.endLine == cpos.line)
  | .ext i e, .Expr (.Call (.Attribute (.Name x _) f apos) [y] [] cpos) _ => decide (N[i]? = some x) && visB sc x && okN x && decide (f = ("extend" : Str)) && (apos.endLine == cpos.line) && plainE y && okE T n N sc e y && kd T e == 2
  | .ifs c a b, .If x p q _ => !isIfe c && okE T n N sc c x && okSs T n N sc fr a p && okSs T n N sc fr b q
  | .for_ _ tg it body, .For t x b [] _ => !isOwn it && okGS N sc tg t && plainE x && okI T n N sc it x && okSs T n N sc fr body b
  | .whil _ _ c body, .While x b [] _ => !isIfe c && okE T n N sc c x && okSs T n N sc fr body b
  | .ret e, .Return (some y) _ => ((fr == 0) || ((fr == 3) && isNon e)) && okE T n N sc e y && kd T e != 1
  | .retO e, .Return (some y) _ => (fr == 2) && okE T n N sc e y && kd T e == 2
  | .retV i, .Return (some (.Name x _)) _ => (fr == 2) && decide (N[i]? = some x) && visB sc x && okN x
  | .retN, .Return none _ => (fr == 0)
  | .retF fl es, .Return (some (.Tuple xs _ _)) _ => (fr == 3) && decide (fl = flE T es) && okEs T n N sc [] es xs
  | .retL es i, .Return (some (.Tuple xs _ _)) _ => (fr == 3) && (match N[i]? with
    | some x => visB sc x && okN x && okEsL T n N sc x es xs
    | none => false)
  | .retC e, .Return (some y) _ => (fr == 3) && okE T n N sc e y && kd T e == 3
  | .expr e, .Expr y _ => !isLc y && okE T n N sc e y
  | .pass, .Pass _ => true
  | .pass, .Expr (.Constant (.str _) _ _) _ => true
  | .cont, .Continue _ => true
  | .nope, st => isRais st
  | .tryB e c, st => (match tryB1 c st with
    | some y => (fr == 0) && glB sc c && okN c && T.exs.contains c && !T.cl && okE T n N sc e y && kd T e != 1
    | none => false)
  | .raisX c e, st => (match rais2 st with
    | some (c', y) => decide (c' = c) && glB sc c && okN c && T.exr.contains c && !T.cl && decide (2 ≤ n) && plainE y && okE T n N sc e y && kd T e != 1
    | none => false)
  | .tryR e c i j ns, st => okTryR T n N sc e c i j ns st
  | .rais c, st => rais1 c st && glB sc c && okN c && T.exs.contains c
  | .tryI e c i j n1 n2, st => (match tryA c st with
    | some (b, x, s) => (match expr1 b, two1 s with
      | some y, some (z, xs, ys) => glB sc c && okN c && T.exs.contains c && !T.cl && !isLc y && okE T n N sc e y && decide (N[i]? = some x) && locB sc x && okN x && decide (N[j]? = some z) && stoB sc z && visB sc z && okN z && glB sc "isinstance" &&
        decide (isCs x xs = some n1) && decide (isCs x ys = some n2) && (n1 ++ n2).all fun C => glB sc C && okN C
      | _, _ => false)
    | none => false)
  | .tryE i e c j h, st => (match try1 c st with
    | some (b, z, w) => glB sc c && okN c && decide (N[j]? = some z) && stoB sc z && cstOk h w && T.exs.contains c && !T.cl && (match i with
      | none => (match expr1 b with
        | some y => !isLc y && okE T n N sc e y
        | none => false)
      | some i => (match asgL b with
        | some (u, y) => !isLc y && okE T n N sc e y && kd T e != 1 && decide (N[i]? = some u) && stoB sc u
        | none => false))
    | none => false)
  | _, _ => false
def okSs (T : Tx) (n : Nat) (N : List Str) (sc : Scope) (fr : Nat) : Ss → List Stmt → Bool
  | .nil, [] => true
  | .cons s r, x :: xs => okS T n N sc fr s x && okSs T n N sc fr r xs
  | .frz _ r, xs => okSs T n N sc fr r xs
  | .lease i e c1 r c2 k o rest, x1 :: x2 :: x3 :: xs => okLease T n N sc fr i e c1 r c2 k o x1 x2 x3 && okSs T n N sc fr rest xs
  | _, _ => false
end

/-! ### the state of a body -/
structure SR (K : PySem.W.Frag) (He Ge : Hp) (ρ : En) (σ : L2.St) (H G : Hp) : Prop where
  ext : Ext He Ge H G
  er : ER K He ρ σ H G
  own : ∀ (i : Nat) (ds : List Dat) (a : Addr), ρ[i]? = some (.ow ds) → σ[i]? = some (some (.ref a)) → He a = none
  sep : ∀ (i j : Nat) (ds es : List Dat) (a : Addr), i ≠ j → ρ[i]? = some (.ow ds) → ρ[j]? = some (.ow es) → σ[i]? = some (some (.ref a)) → σ[j]? = some (some (.ref a)) → False
section
variable {X : Cx} {T : Tx} {P : Pg} {n : Nat} {W : WX} {fr : Nat}
variable {He Ge H G H1 G1 : Hp} {ρ : En} {σ : L2.St}
theorem SR.on (s : SR X.K He Ge ρ σ H G) (x : Ext H G H1 G1) : SR X.K He Ge ρ σ H1 G1 := ⟨s.ext.trans x, s.er.ext x, s.own, s.sep⟩
theorem Ext.rebase (a : Ext He Ge H1 G1) (b : Ext He G1 H G) : Ext He Ge H G :=
  ⟨b.all, a.stl.trans b.stl, b.sub, fun c q => by
    rcases b.new c q with z | z
    · exact a.new c z
    · exact .inr z⟩
theorem Ext.base (a : Ext He Ge H G) : Ext He G H G := ⟨a.all, Same.refl G, a.sub, fun c q => .inl q⟩
theorem SR.base (s : SR X.K He Ge ρ σ H G) : SR X.K He G ρ σ H G := ⟨s.ext.base, s.er, s.own, s.sep⟩
theorem SR.rebase (a : Ext He Ge H1 G1) (s : SR X.K He G1 ρ σ H G) : SR X.K He Ge ρ σ H G := ⟨a.rebase s.ext, s.er, s.own, s.sep⟩
theorem SR.set (s : SR X.K He Ge ρ σ H G) {v : V} {d : Dat} (r : Rep X.K G v d) (i : Nat) : SR X.K He Ge (ρ.set i (.fz d)) (σ.set i (some v)) H G := by
  have key : ∀ (j : Nat) (ds : List Dat), (ρ.set i (.fz d))[j]? = some (.ow ds) → j ≠ i ∧ ρ[j]? = some (.ow ds) := fun j ds e => by
    by_cases h : i = j
    · subst h
      rw [List.getElem?_set] at e
      simp at e
    · rw [List.getElem?_set_ne h] at e
      exact ⟨fun z => h z.symm, e⟩
  refine ⟨s.ext, s.er.set r i, fun j ds a e1 e2 => ?_, fun j k ds es a hjk e1 e2 e3 e4 => ?_⟩
  · obtain ⟨n1, e1⟩ := key j ds e1
    rw [List.getElem?_set_ne (fun z => n1 z.symm)] at e2
    exact s.own j ds a e1 e2
  · obtain ⟨n1, e1⟩ := key j ds e1
    obtain ⟨n2, e2⟩ := key k es e2
    rw [List.getElem?_set_ne (fun z => n1 z.symm)] at e3
    rw [List.getElem?_set_ne (fun z => n2 z.symm)] at e4
    exact s.sep j k ds es a hjk e1 e2 e3 e4
/-- what is forgotten -/
theorem SR.un (s : SR X.K He Ge ρ σ H G) (tmp : List Nat) : SR X.K He Ge (unS tmp ρ) σ H G := by
  have key : ∀ (j : Nat) (z : Sl), (unS tmp ρ)[j]? = some z → z = .un ∨ ρ[j]? = some z := fun j z e => by
    rw [unS_get] at e
    split at e
    · cases e; exact .inl rfl
    · exact .inr e
  refine ⟨s.ext, ⟨s.er.bas, s.er.sub, by rw [unS_length]; exact s.er.len, fun j z e => ?_⟩, fun j ds a e1 e2 => ?_, fun j k ds es a hjk e1 e2 e3 e4 => ?_⟩
  · rw [unS_get] at e
    split at e
    · rename_i h
      cases e
      have hj : j < σ.length := by rw [← s.er.len]; exact h.2
      exact ⟨σ[j], by simp [hj], trivial⟩
    · exact s.er.at_ j z e
  · rcases key j _ e1 with z | z
    · cases z
    · exact s.own j ds a z e2
  · rcases key j _ e1 with z | z
    · cases z
    · rcases key k _ e2 with y | y
      · cases y
      · exact s.sep j k ds es a hjk z y e3 e4
/-- a list of one's own, new -/
theorem SR.setO (s : SR X.K He Ge ρ σ H G) {H1 G1 : Hp} (x : Ext H G H1 G1) {a : Addr} {vs : List V} {ds : List Dat} (na : H a = none) (ga : G1 a = none) (ha : H1 a = some (.lst vs)) (r : Reps X.K G1 vs ds) (i : Nat) :
    SR X.K He Ge (ρ.set i (.ow ds)) (σ.set i (some (.ref a))) H1 G1 := by
  have s1 := s.on x
  have key : ∀ (j : Nat) (z : Sl), (ρ.set i (.ow ds))[j]? = some z → (j = i ∧ z = .ow ds ∧ i < ρ.length) ∨ (j ≠ i ∧ ρ[j]? = some z) := fun j z e => by
    by_cases h : i = j
    · subst h
      by_cases hi : i < ρ.length
      · rw [List.getElem?_set_self hi] at e; cases e; exact .inl ⟨rfl, rfl, hi⟩
      · rw [List.getElem?_eq_none (by rw [List.length_set]; omega)] at e; cases e
    · rw [List.getElem?_set_ne h] at e
      exact .inr ⟨fun z => h z.symm, e⟩
  have old : ∀ (j : Nat) (es : List Dat) (b : Addr), ρ[j]? = some (.ow es) → σ[j]? = some (some (.ref b)) → b ≠ a := fun j es b e1 e2 z => by
    obtain ⟨o, h1, b', ws, rfl, h2, _⟩ := s.er.at_ j _ e1
    rw [e2] at h1
    cases h1
    rw [z, na] at h2
    cases h2
  refine ⟨s1.ext, ⟨s1.er.bas, s1.er.sub, by simp [s1.er.len], fun j z e => ?_⟩, fun j es b e1 e2 => ?_, fun j k ds1 es b hjk e1 e2 e3 e4 => ?_⟩
  · rcases key j z e with ⟨rfl, rfl, hi⟩ | ⟨h, e⟩
    · exact ⟨_, List.getElem?_set_self (by rw [← s1.er.len]; exact hi), a, vs, rfl, ha, ga, r⟩
    · obtain ⟨o, h1, h2⟩ := s1.er.at_ j z e
      exact ⟨o, by rw [List.getElem?_set_ne (fun z => h z.symm)]; exact h1, h2⟩
  · rcases key j _ e1 with ⟨rfl, _, hi⟩ | ⟨h, e⟩
    · rw [List.getElem?_set_self (by rw [← s1.er.len]; exact hi)] at e2
      cases e2
      exact s.ext.all.free na
    · rw [List.getElem?_set_ne (fun z => h z.symm)] at e2
      exact s.own j es b e e2
  · rcases key j _ e1 with ⟨rfl, _, hi⟩ | ⟨h, e⟩
    · rw [List.getElem?_set_self (by rw [← s1.er.len]; exact hi)] at e3
      cases e3
      rcases key k _ e2 with ⟨rfl, _, _⟩ | ⟨h', e'⟩
      · exact hjk rfl
      · rw [List.getElem?_set_ne (fun z => h' z.symm)] at e4
        exact old k es _ e' e4 rfl
    · rw [List.getElem?_set_ne (fun z => h z.symm)] at e3
      rcases key k _ e2 with ⟨rfl, _, hi⟩ | ⟨h', e'⟩
      · rw [List.getElem?_set_self (by rw [← s1.er.len]; exact hi)] at e4
        cases e4
        exact old j ds1 _ e e3 rfl
      · rw [List.getElem?_set_ne (fun z => h' z.symm)] at e4
        exact s.sep j k ds1 es b hjk e e' e3 e4
/-- one's own list is changed -/
theorem SR.chg (s : SR X.K He Ge ρ σ H G) {i : Nat} {ds es : List Dat} {a : Addr} {ws : List V} (e : ρ[i]? = some (.ow ds)) (ha : σ[i]? = some (some (.ref a))) (r : Reps X.K G ws es) :
    SR X.K He Ge (ρ.set i (.ow es)) σ (upd H a (.lst ws)) G := by
  have na := s.own i ds a e ha
  obtain ⟨o, h1, a', vs, ea, h2, ga, _⟩ := s.er.at_ i _ e
  rw [ha] at h1
  cases h1
  cases ea
  have hi : i < ρ.length := (List.getElem?_eq_some_iff.mp e).1
  have key : ∀ (j : Nat) (z : Sl), (ρ.set i (.ow es))[j]? = some z → (j = i ∧ z = .ow es) ∨ (j ≠ i ∧ ρ[j]? = some z) := fun j z q => by
    by_cases h : i = j
    · subst h
      rw [List.getElem?_set_self hi] at q; cases q; exact .inl ⟨rfl, rfl⟩
    · rw [List.getElem?_set_ne h] at q
      exact .inr ⟨fun z => h z.symm, q⟩
  refine ⟨⟨fun b u q => ?_, s.ext.stl, fun b u q => ?_, s.ext.new⟩, ⟨fun b u q => ?_, fun b u q => ?_, by simp [s.er.len], fun j z q => ?_⟩, fun j fs b q1 q2 => ?_, fun j k fs gs b hjk q1 q2 q3 q4 => ?_⟩
  · rw [upd_ne (ne_of_none q na)]; exact s.ext.all _ _ q
  · rw [upd_ne (ne_of_none q ga)]; exact s.ext.sub _ _ q
  · rw [upd_ne (ne_of_none q na)]; exact s.er.bas _ _ q
  · rw [upd_ne (ne_of_none q ga)]; exact s.er.sub _ _ q
  · rcases key j z q with ⟨rfl, rfl⟩ | ⟨h, q⟩
    · exact ⟨_, ha, a, ws, rfl, upd_same, ga, r⟩
    · obtain ⟨o, h1, h3⟩ := s.er.at_ j z q
      refine ⟨o, h1, ?_⟩
      cases z with
      | un => trivial
      | fz d => exact h3
      | ln d => exact h3
      | ex b dx c y =>
        refine ⟨h3.1, ?_⟩
        have h4 := h3.2
        cases y with
        | none => exact h4
        | some d =>
          obtain ⟨b, v, e1, e2, e3⟩ := h4
          refine ⟨b, v, e1, ?_, e3⟩
          rw [upd_ne]
          · exact e2
          · intro z
            subst z
            rw [h2] at e2
            cases e2
      | ow fs =>
        obtain ⟨b, us, rfl, k1, k2, k3⟩ := h3
        refine ⟨b, us, rfl, ?_, k2, k3⟩
        rw [upd_ne]
        · exact k1
        · intro z
          subst z
          exact s.sep j i fs ds b h q e h1 ha
  · rcases key j _ q1 with ⟨rfl, _⟩ | ⟨h, q⟩
    · rw [ha] at q2; cases q2; exact na
    · exact s.own j fs b q q2
  · rcases key j _ q1 with ⟨rfl, _⟩ | ⟨h, q⟩
    · rcases key k _ q2 with ⟨rfl, _⟩ | ⟨h', q'⟩
      · exact hjk rfl
      · exact s.sep j k ds gs b hjk e q' q3 q4
    · rcases key k _ q2 with ⟨rfl, _⟩ | ⟨h', q'⟩
      · exact s.sep j k fs ds b hjk q e q3 q4
      · exact s.sep j k fs gs b hjk q q' q3 q4
/-- one's own list is kept as it is from here on -/
theorem SR.frz (s : SR X.K He Ge ρ σ H G) {i : Nat} {ds : List Dat} (e : ρ[i]? = some (.ow ds)) : ∃ G1 a vs, SR X.K He Ge (ρ.set i (.fz (.list ds))) σ H G1 ∧ σ[i]? = some (some (.ref a)) ∧ He a = none ∧ G1 a = some (.lst vs) ∧ Reps X.K G1 vs ds ∧ Same G G1 := by
  obtain ⟨o, h1, a, vs, rfl, h2, ga, r⟩ := s.er.at_ i _ e
  have na := s.own i ds a e h1
  have hi : i < ρ.length := (List.getElem?_eq_some_iff.mp e).1
  have g1 : Same G (upd G a (.lst vs)) := fun b u q => by rw [upd_ne (ne_of_none q ga)]; exact q
  have sub : Same (upd G a (.lst vs)) H := fun b u q => by
    by_cases hb : b = a
    · subst hb; rw [upd_same] at q; rw [← q]; exact h2
    · rw [upd_ne hb] at q; exact s.er.sub _ _ q
  have key : ∀ (j : Nat) (z : Sl), (ρ.set i (.fz (.list ds)))[j]? = some z → (j = i ∧ z = .fz (.list ds)) ∨ (j ≠ i ∧ ρ[j]? = some z) := fun j z q => by
    by_cases h : i = j
    · subst h
      rw [List.getElem?_set_self hi] at q; cases q; exact .inl ⟨rfl, rfl⟩
    · rw [List.getElem?_set_ne h] at q
      exact .inr ⟨fun z => h z.symm, q⟩
  refine ⟨upd G a (.lst vs), a, vs, ⟨⟨s.ext.all, s.ext.stl.trans g1, sub, fun b q => ?_⟩, ⟨s.er.bas, sub, by simp [s.er.len], fun j z q => ?_⟩, fun j fs b q1 q2 => ?_, fun j k fs gs b hjk q1 q2 q3 q4 => ?_⟩, h1, na, upd_same, r.mono g1, g1⟩
  · by_cases hb : b = a
    · subst hb; exact .inr na
    · rw [upd_ne hb] at q; exact s.ext.new b q
  · rcases key j z q with ⟨rfl, rfl⟩ | ⟨h, q⟩
    · exact ⟨_, h1, _, rfl, .lst (SqL.of upd_same) (r.mono g1)⟩
    · obtain ⟨o, k1, k2⟩ := s.er.at_ j z q
      refine ⟨o, k1, ?_⟩
      cases z with
      | un => trivial
      | fz d => obtain ⟨v, ev, k⟩ := k2; exact ⟨v, ev, k.mono g1⟩
      | ln d => obtain ⟨b, us, ev, k, kk⟩ := k2; exact ⟨b, us, ev, k, kk.mono g1⟩
      | ex b dx c y =>
        refine ⟨k2.1, ?_⟩
        have k3 := k2.2
        cases y with
        | none => exact k3
        | some d => obtain ⟨b, v, e1, e2, e3⟩ := k3; exact ⟨b, v, e1, e2, e3.mono g1⟩
      | ow fs =>
        obtain ⟨b, us, rfl, k3, k4, k5⟩ := k2
        refine ⟨b, us, rfl, k3, ?_, k5.mono g1⟩
        rw [upd_ne]
        · exact k4
        · intro z
          subst z
          exact s.sep j i fs ds b h q e k1 h1
  · rcases key j _ q1 with ⟨_, z⟩ | ⟨h, q⟩
    · cases z
    · exact s.own j fs b q q2
  · rcases key j _ q1 with ⟨_, z⟩ | ⟨h, q⟩
    · cases z
    · rcases key k _ q2 with ⟨_, z⟩ | ⟨h', q'⟩
      · cases z
      · exact s.sep j k fs gs b hjk q q' q3 q4
theorem SR.all_set {Q : L2.St → Hp → Prop} : ∀ {is : List Nat} {vs : List V} {ds : List Dat} {ρ : En} {σ : L2.St}, SR X.K He Ge ρ σ H G → Reps X.K G vs ds → ds.length = is.length →
    (∀ σ', SR X.K He Ge ((is.zip ds).foldl (fun r p => r.set p.1 (.fz p.2)) ρ) σ' H G → Q σ' H) → gAll is vs σ H Q
  | [], vs, ds, ρ, σ, er, r, hl, c => by
    cases ds with
    | nil => cases r; exact ⟨rfl, c σ er⟩
    | cons _ _ => simp at hl
  | i :: is, vs, ds, ρ, σ, er, r, hl, c => by
    cases ds with
    | nil => simp at hl
    | cons d ds =>
      cases r with
      | cons r t => exact ⟨_, _, rfl, SR.all_set (er.set r i) t (by simpa using hl) c⟩
theorem SR.g_set {tg : Tg} {v : V} {d : Dat} {ρ1 : En} {Q : L2.St → Hp → Prop} (s : SR X.K He Ge ρ σ H G) (r : Rep X.K G v d) (h : setT tg d ρ = .ok ρ1)
    (c : ∀ σ', SR X.K He Ge ρ1 σ' H G → Q σ' H) : tG X.K tg v σ H Q := by
  cases tg with
  | nm i =>
    simp only [setT] at h
    cases h
    exact c _ (s.set r i)
  | tp is =>
    cases d <;> simp only [setT] at h <;> try (cases h; done)
    rename_i ds
    split at h <;> cases h
    rename_i hl
    cases r with
    | tup q rr =>
      refine ⟨_, _, rfl, sqT_keep s.er.sub q, by rw [rr.length, hl], ?_⟩
      exact SR.all_set s rr hl c

/-! ### readings -/
def EndS (X : Cx) (W : WX) (fr : Nat) (He Ge : Hp) (D : Ends) : Out → Prop
  | .nx ρ => ∀ σ H G, SR X.K He Ge ρ σ H G → D.nx σ H
  | .ct ρ => ∀ σ H G, SR X.K He Ge ρ σ H G → D.ct σ H
  | .ret d => ∀ v H G, Ext He Ge H G → RK X.K fr He H G v d → D.rt v H
  | .exc c x => ∀ cls dx σ H G, Ext He Ge H G → XR X.K X.mg H G cls dx c x → W cls dx σ H
  | .bad => False
def tS (X : Cx) (W : WX) (fr : Nat) (f : En → Out) : TS := fun D σ H => ∃ He Ge G ρ, SR X.K He Ge ρ σ H G ∧ EndS X W fr He Ge D (f ρ)
theorem EndS.rebase {D : Ends} {o : Out} (a : Ext He Ge H1 G1) (h : EndS X W fr He Ge D o) : EndS X W fr He G1 D o := by
  cases o with
  | nx ρ => exact fun σ H G s => h σ H G (s.rebase a)
  | ct ρ => exact fun σ H G s => h σ H G (s.rebase a)
  | ret d => exact fun v H G x r => h v H G (a.rebase x) r
  | exc c z => exact fun cls dx σ H G x r => h cls dx σ H G (a.rebase x) r
  | bad => exact h
theorem PS.imp {st : Stmt} {t t' : TS} (h : PS X st t) (i : ∀ D σ H, t' D σ H → t D σ H) : PS X st t' := ⟨fun pins s σ H D I q => h.run pins s σ H D I (i D σ H q)⟩
theorem PSs.imp {st : List Stmt} {t t' : TS} (h : PSs X st t) (i : ∀ D σ H, t' D σ H → t D σ H) : PSs X st t' := ⟨fun pins s σ H D I q => h.run pins s σ H D I (i D σ H q)⟩
/-- a term, then a statement -/
theorem bndS {a : E} {f : Dat → Out} {j : Nat} {D : Ends} {Q' : VK} (s : SR X.K He Ge ρ σ H G) (h : EndS X W fr He Ge D (Out.of (ev P a ρ) f))
    (c : ∀ d x H1 G1, Ext H G H1 G1 → RK X.K j H H1 G1 x d → SR X.K He Ge ρ σ H1 G1 → EndS X W fr He Ge D (f d) → Q' x H1) : tK X P W j a σ H Q' := by
  refine ⟨He, G, ρ, s.er, ?_⟩
  cases q : ev P a ρ with
  | ok d => rw [q] at h; exact fun v H' G' x r => c d v H' G' x r (s.on x) h
  | exc z y => rw [q] at h; exact fun cls dx H' G' x r => h cls dx σ H' G' (s.ext.trans x) r
  | bad => rw [q] at h; exact h
theorem bndST {a : E} {f : Bool → Out} {D : Ends} {Q' : Bool → Hp → Prop} (s : SR X.K He Ge ρ σ H G) (h : EndS X W fr He Ge D (Out.of (ev P a ρ >>= fun d => truD d) f))
    (c : ∀ b H1 G1, Ext H G H1 G1 → SR X.K He Ge ρ σ H1 G1 → EndS X W fr He Ge D (f b) → Q' b H1) : tT X P W a σ H Q' := by
  refine ⟨He, G, ρ, s.er, ?_⟩
  cases q : (ev P a ρ >>= fun d => truD d) with
  | ok d => rw [q] at h; exact fun H' G' x => c d H' G' x (s.on x) h
  | exc z y => rw [q] at h; exact fun cls dx H' G' x r => h cls dx σ H' G' (s.ext.trans x) r
  | bad => rw [q] at h; exact h
structure Gs (X : Cx) (T : Tx) (P : Pg) (n : Nat) (W : WX) : Prop extends Gd X T P n W where
  pass : PassesOwn (model X.prog X.w) X.A X.env X.xe
  fnT : ∀ x, X.fn x = true
  kind : X.env.scope.kind = .function
  stk : X.stack = X.env :: X.outer
  frm : X.env.frame = some X.env.locals
end
end NW
end

section
set_option maxHeartbeats 8000000
namespace NW
open PySem PySem.Spec PyProof.Rows L2
theorem swaps_plain {e : Expr} {t : Option Expr} {l : Nat} {env : Env} (h : isLc e = false) : swapsWith e t l env = pure false := by
  cases e <;> first | rfl | (simp [isLc] at h)
theorem swaps_cell {e : Expr} {gs : List Comprehension} {scope : Scope} {pos py : Pos} {y : Str} {l : Nat} {env : Env} (hy : env.scope.names.lookup y = some .cell) : swapsWith (.ListComp e gs scope pos) (some (.Name y py)) l env = pure false := by
  have ky : env.kindOf y = some .cell := hy
  unfold swapsWith
  simp only [ky]
  have z : ((some NameKind.cell : Option NameKind) == some NameKind.local) = false := by decide
  simp only [z, Bool.and_false, Bool.false_and]
section
variable {X : Cx} {T : Tx} {P : Pg} {n : Nat} {W : WX} {fr : Nat} {x y : Expr} {pos py : Pos} {e : E}
theorem loc_sto {sc : Scope} {x : Str} (h : stoB sc x = true) : Loc sc x := by
  unfold stoB at h
  split at h
  · rename_i q; exact .inl q
  · rename_i q; exact .inr q
  · cases h
theorem pgs_allS (nd : X.N.Nodup) (fnT : ∀ x, X.fn x = true) : ∀ {is : List Nat} {es : List Expr}, is.length = es.length → ((is.zip es).all fun p => match p.2 with
    | .Name x _ => decide (X.N[p.1]? = some x) && stoB X.env.scope x
    | _ => false) = true → PGs X es (gAll is) ∧ (assignEach es X.env).length = is.length ∧ (assignEach es X.env).findIdx? (·.1) = none
  | [], [], _, _ => ⟨pgs_nil, rfl, rfl⟩
  | [], _ :: _, h, _ => by simp at h
  | _ :: _, [], h, _ => by simp at h
  | i :: is, e :: es, hl, h => by
    rw [List.zip_cons_cons, List.all_cons, Bool.and_eq_true] at h
    obtain ⟨i1, i2, i3⟩ := pgs_allS nd fnT (is := is) (es := es) (by simpa using hl) h.2
    cases e <;> try (exact absurd h.1 Bool.false_ne_true)
    rename_i x p
    have h1 : X.N[i]? = some x ∧ stoB X.env.scope x = true := by simpa using h.1
    refine ⟨pgs_cons (pg_name nd h1.1 (loc_sto h1.2) (.inl (fnT x))) i1 rfl, ?_, ?_⟩
    · show (assignEach es X.env).length + 1 = is.length + 1
      rw [i2]
    · show List.findIdx? (·.1) ((false, _) :: assignEach es X.env) = none
      rw [List.findIdx?_cons, i3]
      rfl
theorem s_gS {tg : Tg} (g : Gs X T P n W) (h : okGS X.N X.env.scope tg x = true) : PG X x (tG X.K tg) := by
  cases tg with
  | nm i =>
    cases x <;> simp only [okGS] at h <;> try (cases h; done)
    simp only [Bool.and_eq_true, decide_eq_true_eq] at h
    exact pg_name g.nd h.1 (loc_sto h.2) (.inl (g.fnT _))
  | tp is =>
    cases x <;> simp only [okGS] at h <;> try (cases h; done)
    rename_i es k p
    rw [Bool.and_eq_true] at h
    obtain ⟨i1, i2, i3⟩ := pgs_allS g.nd g.fnT (of_decide_eq_true h.1) h.2
    exact pg_tup g.calm i1 i2 i3
/-- a plain store -/
theorem c_set {i : Nat} : ∀ (D : Ends) (σ : L2.St) (H : Hp), tS X W fr (exS P (.set i e)) D σ H → tAsg (tK X P W 0 e) (gName i) D σ H := fun D σ H ⟨He, Ge, G, ρ, s, h⟩ => by
  simp only [exS] at h
  refine bndS s h fun d v H1 G1 x1 r1 s1 q1 => ?_
  exact q1 _ H1 G1 (s1.set r1 i)
theorem c_setO {i : Nat} : ∀ (D : Ends) (σ : L2.St) (H : Hp), tS X W fr (exS P (.setO i e)) D σ H → tAsg (tK X P W 2 e) (gName i) D σ H := fun D σ H ⟨He, Ge, G, ρ, s, h⟩ => by
  simp only [exS] at h
  refine bndS s h fun d v H1 G1 x1 r1 s1 q1 => ?_
  obtain ⟨a, vs, ds, rfl, rfl, na, ga, ha, rr⟩ := r1
  exact q1 _ H1 G1 (s.setO x1 na ga ha rr i)
/-- the store of any term -/
theorem s_store {i : Nat} {nm : Str} {t : TE} (g : Gs X T P n W) (hi : X.N[i]? = some nm) (hs : stoB X.env.scope nm = true) (hl : isLc y = false) (he : PE X y t) : PS X (.Assign [.Name nm py] y pos) (tAsg t (gName i)) :=
  ps_set g.nd hi (loc_sto hs) he (swaps_plain hl) (.inl (g.fnT nm))
theorem s_storeC {i : Nat} {nm : Str} {t : TE} {elt : Expr} {cs : List Comprehension} {scope : Scope} {p : Pos} (g : Gs X T P n W) (hi : X.N[i]? = some nm) (hc : X.env.scope.names.lookup nm = some .cell) (he : PE X (.ListComp elt cs scope p) t) :
    PS X (.Assign [.Name nm py] (.ListComp elt cs scope p) pos) (tAsg t (gName i)) :=
  ps_set g.nd hi (.inr hc) he (swaps_cell hc) (.inl (g.fnT nm))
theorem tAsg_mono {t t' : TE} {g : TG} (h : ∀ σ H Q, t' σ H Q → t σ H Q) (D : Ends) (σ : L2.St) (H : Hp) (q : tAsg t' g D σ H) : tAsg t g D σ H := h _ _ _ q
/-- the parts of a comprehension that is stored -/
theorem s_lcStore {own : List Nat} {tg : Tg} {it : NW.It} {tt elt : E} {i : Nat} {nm : Str} {z : Expr} {cs : List Comprehension} {scope : Scope} {p : Pos} (g : Gs X T P n W) (hi : X.N[i]? = some nm) (hl : locB X.env.scope nm = true) (hp : (py.line == p.line) = true)
    (ha : (scope.names.any fun (n, k) => n == nm && (k == .local || k == .cell)) = false) (h : okE T n X.N X.env.scope (.lc own tg it tt elt) (.ListComp z cs scope p) = true) :
    PS X (.Assign [.Name nm py] (.ListComp z cs scope p) pos) (tAsg (tK X P W 2 (.lc own tg it tt elt)) (gName i)) := by
  match cs, h with
  | [⟨tg', iter, ifs, asy⟩], h =>
    simp only [okE, Bool.and_eq_true, bne_iff_ne, decide_eq_true_eq] at h
    obtain ⟨⟨⟨⟨⟨⟨⟨⟨rfl, h1⟩, h2⟩, h3⟩, h4⟩, h5⟩, h6⟩, h7⟩, h8⟩ := h
    have hif : ifs = [] → tt = .bl true := fun e => by
      subst e
      have h7' : tyes tt = true := h7
      cases tt <;> simp [tyes] at h7'
      subst h7'
      rfl
    have hI := snd_I it X W tg' iter g.toGd h4
    have hG : ∀ (s : Shared) (H : Hp) (C : Addr) (cl : List (Str × Addr)) (fp : List Addr), PG (X.blk s H scope (compEnvC scope cl C X.env) fp) tg' (tG X.K tg) := fun s H C cl fp => s_g (X := X.blk s H scope (compEnvC scope cl C X.env) fp) (tg := tg) g.calm g.nd h5
    have hT : ∀ (s : Shared) (H : Hp) (C : Addr) (cl : List (Str × Addr)) (fp : List Addr), PTs (X.blk s H scope (compEnvC scope cl C X.env) fp) ifs (tIfs X P ifs tt) := fun s H C cl fp => by
      match ifs, h7 with
      | [], _ => exact pts_nil
      | [c], h7 =>
        simp only [Bool.and_eq_true, Bool.not_eq_true'] at h7
        exact pts_one ((snd_E tt (X.blk s H scope (compEnvC scope cl C X.env) fp) _ _ (g.toGd.blk s H scope _ fp) h7.2).pt h7.1)
      | _ :: _ :: _, h7 => cases h7
    have hE : ∀ (s : Shared) (H : Hp) (C : Addr) (cl : List (Str × Addr)) (fp : List Addr), PE (X.blk s H scope (compEnvC scope cl C X.env) fp) z (tK X P (fun _ _ _ _ => False) (kd T elt) elt) := fun s H C cl fp => (snd_E elt (X.blk s H scope (compEnvC scope cl C X.env) fp) _ _ (g.toGd.blk s H scope _ fp) h8).pe
    have hy := loc_of (N := X.N) hl
    refine PS.imp (ps_setLc (pos := p) (spos := pos) (py := py) g.calm g.nd hi hy (sw_true g.kind hy hp ha) hI (blkOk_by h1) hG hT hE (plain_fold h3)) ?_
    exact tAsg_mono (c_lc h2 h6 hif)
  | [], h => simp [okE] at h
  | _ :: _ :: _, h => simp [okE] at h
theorem okE_lc {N : List Str} {sc : Scope} {z : Expr} {cs : List Comprehension} {scope : Scope} {p : Pos} (h : okE T n N sc e (.ListComp z cs scope p) = true) : ∃ own tg it tt elt, e = .lc own tg it tt elt := by
  cases e <;> first | exact ⟨_, _, _, _, _, rfl⟩ | (simp [okE] at h; done)
/-- a store as the look lets it pass -/
theorem s_asg {i : Nat} {nm : Str} (g : Gs X T P n W) (hi : X.N[i]? = some nm) (hs : stoB X.env.scope nm = true) (hl : lcSwap X.env.scope nm py y = true) (h : okE T n X.N X.env.scope e y = true) : PS X (.Assign [.Name nm py] y pos) (tAsg (tK X P W (kd T e) e) (gName i)) := by
  have he := (snd_E e X W y g.toGd h).pe
  cases y with
  | ListComp z cs scope p =>
    unfold lcSwap at hl
    rw [Bool.or_eq_true] at hl
    rcases hl with hl | hl
    · simp only [Bool.and_eq_true, Bool.not_eq_true'] at hl
      obtain ⟨own, tg, it, tt, elt, rfl⟩ := okE_lc h
      exact s_lcStore g hi hl.1.1 hl.1.2 hl.2 h
    · exact s_storeC g hi (of_decide_eq_true hl) he
  | SetComp _ _ _ _ => simp [lcSwap] at hl
  | DictComp _ _ _ _ _ => simp [lcSwap] at hl
  | _ => exact s_store g hi hs rfl he
theorem s_tupA {is : List Nat} {t : Expr} (g : Gs X T P n W) (ht : okGS X.N X.env.scope (.tp is) t = true) (hl : isLc y = false) (hu : isTup y = false) (hk : kd T e ≠ 1) (he : PE X y (tK X P W (kd T e) e)) : PS X (.Assign [t] y pos) (tS X W fr (exS P (.tup is e))) := by
  have hG := s_gS (X := X) (tg := .tp is) g ht
  have hT : ∃ es k p, t = .Tuple es k p := by
    cases t <;> simp only [okGS] at ht <;> first | exact ⟨_, _, _, rfl⟩ | (cases ht; done)
  obtain ⟨es, k, p, rfl⟩ := hT
  refine PS.imp (ps_asg (stillE hk he) hG (by show swapsWith y (some (.Tuple es k p)) pos.line X.env = pure false; exact swaps_plain hl) ?_ rfl) fun D σ H ⟨He, Ge, G, ρ, s, h⟩ => ?_
  · cases y <;> first | rfl | (simp [isTup] at hu)
  · simp only [exS] at h
    refine bndS s h fun d v H1 G1 x1 r1 s1 q1 => ?_
    cases q : setT (.tp is) d ρ with
    | ok ρ1 => rw [q] at q1; exact s1.g_set r1 q fun σ' s' => q1 σ' H1 G1 s'
    | exc c z => cases d <;> simp only [setT] at q <;> first | (cases q; done) | (split at q <;> cases q)
    | bad => rw [q] at q1; exact q1.elim
theorem few_one {cpos : Pos} (hp : plainE y = true) : ((backTo cpos (starEach (y :: []) X.env)).all (fun x => !x.1) && (backToKw cpos (keywordEach [] X.env)).all (fun x => x.1.isSome)
      && decide ((y :: ([] : List Expr)).length + ([] : List Keyword).length + (if ([] : List Keyword).isEmpty then 0 else 1) < 30)) = true := by
  rw [star_cons hp]
  rfl
theorem s_app {i : Nat} {nm : Str} {np apos cpos : Pos} (g : Gs X T P n W) (hi : X.N[i]? = some nm) (hv : visB X.env.scope nm = true) (ho : okN nm = true) (hl : (apos.endLine == cpos.line) = true) (hp : plainE y = true) (hk : kd T e ≠ 1)
    (he : PE X y (tK X P W (kd T e) e)) : PS X (.Expr (.Call (.Attribute (.Name nm np) "append" apos) [y] [] cpos) pos) (tS X W fr (exS P (.app i e))) := by
  refine PS.imp (ps_expr (pe_bm PySem.F.plainAttrs_list PySem.F.slot_list_append PySem.F.type_list_append mt_append (pe_var hi (vis_of hv) (okN_d ho) (okN_c ho)) (pa_cons (stillE hk he) pa_nil (star_cons hp)) rfl (few_one hp) hl (star_cons hp) rfl) rfl) fun D σ H ⟨He, Ge, G, ρ, s, h⟩ => ?_
  simp only [exS] at h
  cases hd : getS ρ i with
  | ow ds =>
    rw [hd] at h
    have e0 := getS_some hd nofun
    obtain ⟨o, h1, a, vs, rfl, h2, ga, rr⟩ := s.er.at_ i _ e0
    refine ⟨_, h1, .inl ⟨rfl, vs, SqL.of h2⟩, ?_⟩
    refine bndS s h fun d v H1 G1 x1 r1 s1 q1 => ?_
    split at q1
    · rename_i hz
      obtain ⟨o', h1', a', vs', ea, h2', ga', rr'⟩ := s1.er.at_ i _ e0
      rw [h1] at h1'
      cases h1'
      cases ea
      refine ⟨a, vs', v, rfl, rfl, h2', lt_line (by rw [rr'.length]; exact hz), ?_⟩
      exact q1 σ _ G1 (s1.chg e0 h1 (rr'.append (.cons r1 .nil)))
    · exact q1.elim
  | un => rw [hd] at h; exact h.elim
  | fz _ => rw [hd] at h; exact h.elim
  | ln _ => rw [hd] at h; exact h.elim
  | ex _ _ _ _ => rw [hd] at h; exact h.elim
theorem s_rev {i : Nat} {nm : Str} {np apos cpos : Pos} (g : Gs X T P n W) (hi : X.N[i]? = some nm) (hv : visB X.env.scope nm = true) (ho : okN nm = true) (hl : (apos.endLine == cpos.line) = true) :
    PS X (.Expr (.Call (.Attribute (.Name nm np) "reverse" apos) [] [] cpos) pos) (tS X W fr (exS P (.rev i))) := by
  refine PS.imp (ps_expr (pe_bm0 PySem.F.plainAttrs_list PySem.F.slot_list_reverse PySem.F.type_list_reverse mt_reverse (pe_var hi (vis_of hv) (okN_d ho) (okN_c ho)) rfl hl) rfl) fun D σ H ⟨He, Ge, G, ρ, s, h⟩ => ?_
  simp only [exS] at h
  cases hd : getS ρ i with
  | ow ds =>
    rw [hd] at h
    have e0 := getS_some hd nofun
    obtain ⟨o, h1, a, vs, rfl, h2, ga, rr⟩ := s.er.at_ i _ e0
    exact ⟨_, h1, .inl ⟨rfl, vs, SqL.of h2⟩, a, vs, rfl, rfl, h2, h σ _ G (s.chg e0 h1 rr.reverse)⟩
  | un => rw [hd] at h; exact h.elim
  | fz _ => rw [hd] at h; exact h.elim
  | ln _ => rw [hd] at h; exact h.elim
  | ex _ _ _ _ => rw [hd] at h; exact h.elim
theorem s_ext {i : Nat} {nm : Str} {np apos cpos : Pos} (g : Gs X T P n W) (hi : X.N[i]? = some nm) (hv : visB X.env.scope nm = true) (ho : okN nm = true) (hl : (apos.endLine == cpos.line) = true) (hp : plainE y = true)
    (he : PE X y (tK X P W 2 e)) : PS X (.Expr (.Call (.Attribute (.Name nm np) "extend" apos) [y] [] cpos) pos) (tS X W fr (exS P (.ext i e))) := by
  refine PS.imp (ps_expr (pe_bm PySem.F.plainAttrs_list PySem.F.slot_list_extend PySem.F.type_list_extend mt_extend (pe_var hi (vis_of hv) (okN_d ho) (okN_c ho)) (pa_cons he pa_nil (star_cons hp)) rfl (few_one hp) hl (star_cons hp) rfl) rfl) fun D σ H ⟨He, Ge, G, ρ, s, h⟩ => ?_
  simp only [exS] at h
  cases hd : getS ρ i with
  | ow ds =>
    rw [hd] at h
    have e0 := getS_some hd nofun
    obtain ⟨o, h1, a, vs, rfl, h2, ga, rr⟩ := s.er.at_ i _ e0
    refine ⟨_, h1, .inl ⟨rfl, vs, SqL.of h2⟩, ?_⟩
    refine bndS s h fun d v H1 G1 x1 r1 s1 q1 => ?_
    obtain ⟨b, ws, es, rfl, rfl, nb, gb, hb, rb⟩ := r1
    simp only at q1
    split at q1
    · rename_i hz
      obtain ⟨o', h1', a', vs', ea, h2', ga', rr'⟩ := s1.er.at_ i _ e0
      rw [h1] at h1'
      cases h1'
      cases ea
      refine ⟨a, b, vs', ws, rfl, rfl, h2', hb, by rw [rr'.length, rb.length]; exact le_line (Nat.le_of_lt hz), ?_⟩
      exact q1 σ _ G1 (s1.chg e0 h1 (rr'.append rb))
    · exact q1.elim
  | un => rw [hd] at h; exact h.elim
  | fz _ => rw [hd] at h; exact h.elim
  | ln _ => rw [hd] at h; exact h.elim
  | ex _ _ _ _ => rw [hd] at h; exact h.elim
/-- a loop over what is walked -/
theorem s_for {tmp : List Nat} {tg : Tg} {it : NW.It} {body : Ss} {t : Expr} {b : List Stmt} (g : Gs X T P n W) (hno : isOwn it = false) (ht : okGS X.N X.env.scope tg t = true) (hp : plainE x = true) (hi : PI X t x (tI X P W it)) (hb : PSs X b (tS X W fr (exSs P body))) :
    PS X (.For t x b [] pos) (tS X W fr (exS P (.for_ tmp tg it body))) := by
  refine PS.imp (ps_for g.pass g.calm hi (s_gS g ht) hb (plain_fold hp)) fun D σ H ⟨He, Ge, G, ρ, s, h⟩ => ?_
  simp only [exS] at h
  refine ⟨He, G, ρ, s.er, ?_⟩
  rw [bI_no hno]
  cases qi : evI P it ρ with
  | exc c z => rw [qi] at h; exact fun cls dx H' G' x r => h cls dx σ H' G' (s.ext.trans x) r
  | bad => rw [qi] at h; exact h
  | ok xs =>
    rw [qi] at h
    simp only [out_ok] at h
    intro J H1 G1 x1 Y
    have s1 := s.on x1
    refine ⟨fun i m σ' H' => m = xs.length - i ∧ i ≤ xs.length ∧ ∃ G' ρ', SR X.K He G1 ρ' σ' H' G' ∧ EndS X W fr He Ge D (forL tmp (fun x ρ => Out.of (setT tg x ρ) (exSs P body)) (xs.drop i) ρ'),
      ⟨xs.length, by simp, Nat.zero_le _, G1, ρ, s1.base, h⟩, ?_⟩
    rintro i m σ2 H2 ⟨rfl, hle, G2, ρ2, s2, h2⟩
    have s2' := s2.un tmp
    by_cases hlt : i < xs.length
    · refine .inr ⟨Y.go i H2 G2 hlt s2.er.bas s2.ext.stl s2.er.sub, fun σ' H' => ∃ m', m' < xs.length - i ∧ (m' = xs.length - (i + 1) ∧ i + 1 ≤ xs.length ∧ ∃ G' ρ', SR X.K He G1 ρ' σ' H' G' ∧ EndS X W fr He Ge D (forL tmp (fun x ρ => Out.of (setT tg x ρ) (exSs P body)) (xs.drop (i + 1)) ρ')),
        fun σ' H' h => h, fun v H3 y => ?_⟩
      obtain ⟨d, G3, hd, x3, rd⟩ := Y.yld i H2 G2 v H3 hlt s2.er.bas s2.ext.stl s2.er.sub y
      have edrop : xs.drop i = d :: xs.drop (i + 1) := by
        rw [List.drop_eq_getElem_cons hlt]
        have := (List.getElem?_eq_some_iff.mp hd).2
        rw [this]
      rw [edrop] at h2
      simp only [forL] at h2
      have s3 := s2'.on x3
      have xE : Ext He Ge H1 G1 := s1.ext
      cases qs : setT tg d (unS tmp ρ2) with
      | exc c z =>
        cases tg with
        | nm i => simp only [setT] at qs; cases qs
        | tp is => cases d <;> simp only [setT] at qs <;> first | (cases qs; done) | (split at qs <;> cases qs)
      | bad => rw [qs] at h2; exact h2.elim
      | ok ρ3 =>
        rw [qs] at h2
        simp only [out_ok] at h2
        refine s3.g_set rd qs fun σ4 s4 => ?_
        refine ⟨He, G1, G3, ρ3, s4, ?_⟩
        cases qo : exSs P body ρ3 with
        | nx ρ5 =>
          rw [qo] at h2
          exact fun σ6 H6 G6 s6 => ⟨xs.length - (i + 1), by omega, rfl, hlt, G6, ρ5, s6, h2⟩
        | ct ρ5 =>
          rw [qo] at h2
          exact fun σ6 H6 G6 s6 => ⟨xs.length - (i + 1), by omega, rfl, hlt, G6, ρ5, s6, h2⟩
        | ret d => rw [qo] at h2; exact fun v H G x r => h2 v H G (xE.rebase x) r
        | exc c z => rw [qo] at h2; exact fun cls dx σ H G x r => h2 cls dx σ H G (xE.rebase x) r
        | bad => rw [qo] at h2; exact h2
    · have e : i = xs.length := by omega
      subst e
      rw [List.drop_length] at h2
      simp only [forL] at h2
      exact .inl ⟨Y.stop H2 G2 s2.er.bas s2.ext.stl s2.er.sub, h2 σ2 H2 G2 (s2'.rebase s1.ext)⟩
theorem s_whil {fuel : En → Nat} {tmp : List Nat} {c : E} {body : Ss} {b : List Stmt} (g : Gs X T P n W) (hc : PT X x (tT X P W c)) (hb : PSs X b (tS X W fr (exSs P body))) :
    PS X (.While x b [] pos) (tS X W fr (exS P (.whil fuel tmp c body))) := by
  refine PS.imp (ps_while g.pass hc hb) fun D σ H ⟨He, Ge, G, ρ, s, h⟩ => ?_
  simp only [exS] at h
  refine ⟨fun m σ' H' => ∃ G' ρ', SR X.K He Ge ρ' σ' H' G' ∧ EndS X W fr He Ge D (whilL tmp (fun ρ => ev P c ρ >>= fun d => truD d) (exSs P body) m ρ'), ⟨fuel ρ, G, ρ, s, h⟩, ?_⟩
  rintro m σ2 H2 ⟨G2, ρ2, s2, h2⟩
  cases m with
  | zero => exact h2.elim
  | succ m =>
    simp only [whilL] at h2
    refine bndST (s2.un tmp) h2 fun r H1 G1 x1 s1 q1 => ?_
    cases r with
    | true =>
      rw [if_pos rfl]
      simp only at q1
      refine ⟨fun σ' H' => ∃ m', m' < m + 1 ∧ ∃ G' ρ', SR X.K He Ge ρ' σ' H' G' ∧ EndS X W fr He Ge D (whilL tmp (fun ρ => ev P c ρ >>= fun d => truD d) (exSs P body) m' ρ'), fun σ' H' h => h, He, Ge, G1, unS tmp ρ2, s1, ?_⟩
      cases qo : exSs P body (unS tmp ρ2) with
      | nx ρ5 => rw [qo] at q1; exact fun σ6 H6 G6 s6 => ⟨m, Nat.lt_succ_self m, G6, ρ5, s6, q1⟩
      | ct ρ5 => rw [qo] at q1; exact fun σ6 H6 G6 s6 => ⟨m, Nat.lt_succ_self m, G6, ρ5, s6, q1⟩
      | ret d => rw [qo] at q1; exact q1
      | exc c z => rw [qo] at q1; exact q1
      | bad => rw [qo] at q1; exact q1
    | false =>
      rw [if_neg Bool.false_ne_true]
      exact q1 _ H1 G1 s1
/-- a constant as it is written -/
def cstV : E → V
  | .bl b => .bl b
  | .str x => .str x
  | _ => .non
def cstD : E → Dat
  | .bl b => .bool b
  | .str x => .str x
  | _ => .none
theorem s_cst {h : E} {w : Expr} (hc : cstOk h w = true) : PE X w (tC (cstV h)) ∧ isLc w = false ∧ (∀ ρ, ev P h ρ = .ok (cstD h)) ∧ ∀ G, Rep X.K G (cstV h) (cstD h) := by
  cases h <;> cases w <;> simp only [cstOk] at hc <;> try (cases hc; done)
  all_goals rename_i c k p
  all_goals cases c <;> simp only at hc <;> try (cases hc; done)
  · exact ⟨pe_non, rfl, fun ρ => by simp only [ev]; rfl, fun _ => .non⟩
  · rename_i b b'
    have e := eq_of_beq hc
    subst e
    exact ⟨pe_bl, rfl, fun ρ => by simp only [ev]; rfl, fun _ => .bl _⟩
  · rename_i b b'
    have e := of_decide_eq_true hc
    subst e
    exact ⟨pe_str, rfl, fun ρ => by simp only [ev]; rfl, fun _ => .str _⟩
theorem s_rais {c m : Str} {k : Nat} {np p2 cp : Pos} (g : Gs X T P n W) (hg : glB X.env.scope c = true) (ho : okN c = true) (hx : T.exs.contains c = true) :
    PS X (.Raise (some (.Call (.Name c np) [.Constant (.str m) k p2] [] cp)) none pos) (tS X W fr (exS P (.rais c))) := by
  obtain ⟨C, h1, h2⟩ := g.exs c (List.contains_iff_mem.mp hx)
  have hg' : X.env.scope.names.lookup c = some .globalImplicit := of_decide_eq_true hg
  have tk := g.tk
  cases hcl : T.cl with
  | false =>
    rw [hcl] at tk
    refine PS.imp (ps_raise g.calm tk (pmk_own PySem.F.excBase_ValueError h2.exc h1 h2.keep (raises_own h2.sub h2.ty) hg' (okN_d ho))) fun D σ H ⟨He, Ge, G, ρ, s, q⟩ => ?_
    simp only [exS] at q
    exact q (.ref C) none σ H G s.ext ⟨⟨C, h1, rfl⟩, rfl⟩
  | true =>
    rw [hcl] at tk
    refine PS.imp (L2N.ps_raise g.calm tk (L2N.pmk_own PySem.F.excBase_ValueError h2.exc h1 h2.keep (raises_own h2.sub h2.ty) hg' (okN_d ho))) fun D σ H ⟨He, Ge, G, ρ, s, q⟩ => ?_
    simp only [exS] at q
    exact q (.ref C) none σ H G s.ext ⟨⟨C, h1, rfl⟩, rfl⟩
theorem tk_low (g : Gs X T P n W) (h : T.cl = false) : Takes X W := by
  have tk := g.tk
  rw [h] at tk
  exact tk
theorem s_raisX {c : Str} {e : E} {np cp : Pos} (g : Gs X T P n W) (hg : glB X.env.scope c = true) (ho : okN c = true) (hx : T.exr.contains c = true) (hcl : T.cl = false) (hn : 2 ≤ n) (hp : plainE y = true) (hk : kd T e ≠ 1) (he : PE X y (tK X P W (kd T e) e)) :
    PS X (.Raise (some (.Call (.Name c np) [y] [] cp)) none pos) (tS X W fr (exS P (.raisX c e))) := by
  obtain ⟨C, h1, fI, fd, r1, r2, r3, r4, r5, r6, r7, r8⟩ := g.exr c (List.contains_iff_mem.mp hx)
  have hg' : X.env.scope.names.lookup c = some .globalImplicit := of_decide_eq_true hg
  refine PS.imp (ps_raise g.calm (tk_low g hcl) (pmk_oex r1 r3 r4 r5 (g.room.mono hn) r7 .nil passes0 hg' h1 (pa_cons (stillE hk he) pa_nil (star_cons hp)) (okN_d ho) (star_cons hp) rfl)) fun D σ H ⟨He, Ge, G, ρ, s, q⟩ => ?_
  simp only [exS] at q
  refine bndS s q fun d v H1 G1 x1 rv s1 q1 => ?_
  refine mk_row (H := H1) (v := v) (Q := fun cls d H' => W cls d σ H') r1 r2 fun a dx na nd hda => ?_
  obtain ⟨m1, m2⟩ := made_row (mg := X.mg) (c := c) s1.er.sub na nd hda h1 rv
  exact q1 _ _ σ _ _ (s1.ext.trans m1) m2
theorem Gs.tr (g : Gs X T P n W) {W' : WX} {pn : List (Addr × Obj)} {xe : Value → Shared → Prop} (tk : TkB T.cl (X.tr pn xe) W') (ps : PassesOwn (model X.prog X.w) X.A X.env xe) : Gs (X.tr pn xe) T P n W' :=
  ⟨⟨g.calm, g.nd, g.room, tk, g.fns, g.cons, g.blt, g.exs, g.exm, g.iss, g.exr⟩, ps, g.fnT, g.kind, g.stk, g.frm⟩
theorem Gs.tr0 (g : Gs X T P n W) (hcl : T.cl = false) {W' : WX} {pn : List (Addr × Obj)} {xe : Value → Shared → Prop} (tk : Takes (X.tr pn xe) W') (ps : PassesOwn (model X.prog X.w) X.A X.env xe) : Gs (X.tr pn xe) T P n W' :=
  g.tr (by rw [hcl]; exact tk) ps
/-- what a try's body gives, its value then kept by f -/
def tTry (X : Cx) (P : Pg) (W : WX) (k : Nat) (e : E) (f : V → Hp → L2.St → Hp → Ends → Prop) : TS := fun D σ H => tK X P W k e σ H fun v H1 => f v H1 σ H1 D
theorem try_end {i : Option Nat} {c : Str} {j : Nat} {h : E} {D : Ends} {σ : L2.St} {H He Ge G : Hp} {ρ : En} {k : Nat} {C : Addr} {v : V} {dv : Dat} {Q : VK} (g : Gs X T P n W) (hC : X.mg c = some (.ref C)) (hv : ∀ ρ, ev P h ρ = .ok dv) (rv : ∀ G, Rep X.K G v dv)
    (s : SR X.K He Ge ρ σ H G) (q : EndS X W fr He Ge D (tryO (fun c' => P.X c' c) i j ρ (ev P h ρ) (ev P e ρ)))
    (ok : ∀ d x H1 G1, Ext H G H1 G1 → RK X.K k H H1 G1 x d → SR X.K He Ge ρ σ H1 G1 → EndS X W fr He Ge D (keepO i ρ d) → Q x H1) :
    tK X P (wOnly X.K (.ref C) (fun _ _ _ D σ H => D.nx (σ.set j (some v)) H) W D) k e σ H Q := by
  refine ⟨He, G, ρ, s.er, ?_⟩
  cases qe : ev P e ρ with
  | ok d =>
    rw [qe] at q
    exact fun x H1 G1 x1 r1 => ok d x H1 G1 x1 r1 (s.on x1) q
  | exc c' z =>
    rw [qe, hv ρ] at q
    simp only [tryO] at q
    cases qm : P.X c' c with
    | none => rw [qm] at q; exact q.elim
    | some b =>
      rw [qm] at q
      obtain ⟨C1, C2, m1, m2, m3⟩ := g.exm c' c b qm
      rw [hC] at m2
      cases m2
      intro cls dx H1 G1 x1 r1
      obtain ⟨⟨C3, m4, rfl⟩, r2⟩ := r1
      rw [m1] at m4
      cases m4
      refine ⟨b, m3, fun hb a _ => ?_, fun hb => ?_⟩
      · subst hb
        exact q _ H1 G1 ((s.on x1).set (rv G1) j)
      · subst hb
        exact q _ dx σ H1 G1 (s.ext.trans x1) ⟨⟨C1, m1, rfl⟩, r2⟩
  | bad => rw [qe] at q; exact q.elim
theorem s_tryE {c z : Str} {i : Option Nat} {j : Nat} {h : E} {w : Expr} {body : List Stmt} {np zp ap hp tp : Pos} {k : Nat} {Qk : V → L2.St → Hp → Ends → Prop} (g : Gs X T P n W) (hcl : T.cl = false) (hg : glB X.env.scope c = true) (ho : okN c = true) (hj : X.N[j]? = some z) (hs : stoB X.env.scope z = true) (hw : cstOk h w = true) (hm : ∃ C, X.mg c = some (.ref C))
    (hb : ∀ (W' : WX) (pn : List (Addr × Obj)) (xe : Value → Shared → Prop), Gs (X.tr pn xe) T P n W' → PSs (X.tr pn xe) body (fun D σ H => tK X P W' k e σ H fun v H1 => Qk v σ H1 D))
    (hq : ∀ (D : Ends) (σ : L2.St) (He Ge H1 G1 : Hp) (ρ : En) (H : Hp) (x : V) (d : Dat), RK X.K k H H1 G1 x d → SR X.K He Ge ρ σ H1 G1 → EndS X W fr He Ge D (keepO i ρ d) → Qk x σ H1 D) :
    PS X (.Try body [.ExceptHandler (some (.Name c np)) none [.Assign [.Name z zp] w ap] hp] [] [] tp) (tS X W fr (exS P (.tryE i e c j h))) := by
  obtain ⟨C, hC⟩ := hm
  obtain ⟨p1, p2, p3, p4⟩ := s_cst (P := P) (X := X) hw
  have hg' : X.env.scope.names.lookup c = some .globalImplicit := of_decide_eq_true hg
  refine PS.imp (ps_try_only (ts := fun _ _ _ D σ H => D.nx (σ.set j (some (cstV h))) H) g.stk g.frm ⟨hg', okN_d ho, .inl hC⟩ (tk_low g hcl) (fun W' pn xe tk ps => hb W' pn xe (g.tr0 hcl tk ps)) fun a oe cls d pn _ _ => ?_) fun D σ H ⟨He, Ge, G, ρ, s, q⟩ => ?_
  · have z := s_cst (P := P) (X := X.suite a ((a, oe) :: pn)) hw
    exact PSs.imp (pss_one (ps_set (X := X.suite a ((a, oe) :: pn)) g.nd hj (loc_sto hs) z.1 (swaps_plain z.2.1) (.inl (g.fnT _)))) fun D σ H q => q
  · simp only [exS] at q
    exact try_end g hC p3 p4 s q fun d x H1 G1 x1 r1 s1 q1 => hq D σ He Ge H1 G1 ρ H x d r1 s1 q1
/-- a slot's thing is an exception -/
theorem SR.setX (s : SR X.K He Ge ρ σ H G) (i : Nat) (a : Addr) (c : Str) : SR X.K He Ge (ρ.set i (.ex a none c none)) (σ.set i (some (.ref a))) H G := by
  have key : ∀ (j : Nat) (ds : List Dat), (ρ.set i (.ex a none c none))[j]? = some (.ow ds) → j ≠ i ∧ ρ[j]? = some (.ow ds) := fun j ds e => by
    by_cases h : i = j
    · subst h
      rw [List.getElem?_set] at e
      simp at e
    · rw [List.getElem?_set_ne h] at e
      exact ⟨fun z => h z.symm, e⟩
  refine ⟨s.ext, ⟨s.er.bas, s.er.sub, by simp [s.er.len], fun j z e => ?_⟩, fun j ds b e1 e2 => ?_, fun j k ds es b hjk e1 e2 e3 e4 => ?_⟩
  · by_cases h : i = j
    · subst h
      have hi : i < ρ.length := by
        by_cases hi : i < ρ.length
        · exact hi
        · rw [List.getElem?_eq_none (by rw [List.length_set]; omega)] at e; cases e
      rw [List.getElem?_set_self hi] at e
      cases e
      exact ⟨_, List.getElem?_set_self (by rw [← s.er.len]; exact hi), rfl, rfl⟩
    · rw [List.getElem?_set_ne h] at e
      obtain ⟨o, h1, h2⟩ := s.er.at_ j z e
      exact ⟨o, by rw [List.getElem?_set_ne h]; exact h1, h2⟩
  · obtain ⟨n1, e1⟩ := key j ds e1
    rw [List.getElem?_set_ne (fun z => n1 z.symm)] at e2
    exact s.own j ds b e1 e2
  · obtain ⟨n1, e1⟩ := key j ds e1
    obtain ⟨n2, e2⟩ := key k es e2
    rw [List.getElem?_set_ne (fun z => n1 z.symm)] at e3
    rw [List.getElem?_set_ne (fun z => n2 z.symm)] at e4
    exact s.sep j k ds es b hjk e1 e2 e3 e4
/-- a slot is emptied -/
theorem SR.unset (s : SR X.K He Ge ρ σ H G) (i : Nat) {o : Option V} : SR X.K He Ge (ρ.set i .un) (σ.set i o) H G := by
  have key : ∀ (j : Nat) (ds : List Dat), (ρ.set i .un)[j]? = some (.ow ds) → j ≠ i ∧ ρ[j]? = some (.ow ds) := fun j ds e => by
    by_cases h : i = j
    · subst h
      rw [List.getElem?_set] at e
      simp at e
    · rw [List.getElem?_set_ne h] at e
      exact ⟨fun z => h z.symm, e⟩
  refine ⟨s.ext, ⟨s.er.bas, s.er.sub, by simp [s.er.len], fun j z e => ?_⟩, fun j ds b e1 e2 => ?_, fun j k ds es b hjk e1 e2 e3 e4 => ?_⟩
  · by_cases h : i = j
    · subst h
      have hi : i < ρ.length := by
        by_cases hi : i < ρ.length
        · exact hi
        · rw [List.getElem?_eq_none (by rw [List.length_set]; omega)] at e; cases e
      rw [List.getElem?_set_self hi] at e
      cases e
      exact ⟨_, List.getElem?_set_self (by rw [← s.er.len]; exact hi), trivial⟩
    · rw [List.getElem?_set_ne h] at e
      obtain ⟨o, h1, h2⟩ := s.er.at_ j z e
      exact ⟨o, by rw [List.getElem?_set_ne h]; exact h1, h2⟩
  · obtain ⟨n1, e1⟩ := key j ds e1
    rw [List.getElem?_set_ne (fun z => n1 z.symm)] at e2
    exact s.own j ds b e1 e2
  · obtain ⟨n1, e1⟩ := key j ds e1
    obtain ⟨n2, e2⟩ := key k es e2
    rw [List.getElem?_set_ne (fun z => n1 z.symm)] at e3
    rw [List.getElem?_set_ne (fun z => n2 z.symm)] at e4
    exact s.sep j k ds es b hjk e1 e2 e3 e4
/-- the questions about a caught exception, as terms -/
def isEs (a : Addr) (dx : Option Addr) (c : Str) (i : Nat) : List Str → Es
  | [] => .nil
  | C :: r => .cons (.iss a dx c i C) (isEs a dx c i r)
theorem evs_is {a : Addr} {dx : Option Addr} {c : Str} {i : Nat} {ρ : En} {x : Option Dat} (h : getS ρ i = .ex a dx c x) : ∀ {l : List Str} {bs : List Bool}, isAll (P.I c) l = some bs → evs P (isEs a dx c i l) ρ = .ok (bs.map .bool)
  | [], bs, e => by
    simp only [isAll] at e
    cases e
    simp only [isEs, evs, List.map_nil]
  | C :: r, bs, e => by
    simp only [isAll] at e
    cases q1 : P.I c C with
    | none => rw [q1] at e; cases e
    | some b =>
      cases q2 : isAll (P.I c) r with
      | none => rw [q1, q2] at e; cases e
      | some bs' =>
        rw [q1, q2] at e
        cases e
        simp only [isEs, evs, ev, h, q1, evs_is h q2, ok_bind, List.map_cons]
        simp
/-- isinstance(e, c), e the exception that the suite holds, with or without a dict -/
def rIsX (K : PySem.W.Frag) (D a : Addr) (dx : Option Addr) : List V → Hp → VK → Prop := fun xs H Q => ∃ (c : V) (cv : Value) (b : Bool), xs = [.ref a, c] ∧ (∀ u, RelV c u → u = cv) ∧ PySem.W.kitOne K (.ref D) cv = some b ∧
  (dx = none ∨ ∃ dd fs, dx = some dd ∧ H dd = some (.xd fs)) ∧ Q (.bl b) H
theorem call_isX {X : Cx} {a D : Addr} {dx : Option Addr} {oe : Obj} {pn : List (Addr × Obj)} (C : ExcC X.K D) (hz : Zc (.ref D) dx oe) (hf : ∃ vs, oe.data = .fields vs) : CallR (X.suite a ((a, oe) :: pn)) (.builtin "isinstance") (rIsX X.K D a dx) := by
  intro pins s σ H xs us Q I r h
  obtain ⟨c, cv, b, rfl, hcv, e, hd, q⟩ := h
  cases r with
  | cons rx rr =>
    cases rr with
    | cons rt rr =>
      cases rr
      cases rx
      have ec := hcv _ rt
      subst ec
      obtain ⟨hget, _⟩ := I.pin (a, oe) (List.mem_append.mpr (.inl List.mem_cons_self))
      obtain ⟨vs, hv⟩ := hf
      have hcl : (PySem.W.clsIn X.K D).isSome = true := by
        have hh := C.hd
        unfold PySem.W.hasDictIn at hh
        cases qc : PySem.W.clsIn X.K D with
        | none => rw [qc] at hh; cases hh
        | some _ => rfl
      have J : ∃ od, PySem.W.InstAt s.heap a oe D od := by
        obtain ⟨z1, z2⟩ := hz
        rcases hd with rfl | ⟨dd, fs, rfl, hdd⟩
        · exact ⟨none, hget, z1, by unfold PySem.W.notCls; rw [hv] <;> rfl, by rw [z2]; trivial⟩
        · have hx : ObjOk X.prog X.w H s.heap dd (.xd fs) := I.hok dd _ hdd
          obtain ⟨mA, hns, hr⟩ := hx
          obtain ⟨od, ho, hl⟩ := lookIn_ns hns
          exact ⟨some od, hget, z1, by unfold PySem.W.notCls; rw [hv] <;> rfl, by rw [z2]; exact ho⟩
      obtain ⟨od, J⟩ := J
      exact PySem.W.kia_one (PySem.W.kitx_exc hcl C.hg C.hk C.hs C.ha C.hn C.ht C.hm) I.kIn J e (fun z => nomatch z) fun tk => ⟨.bl b, H, I.kept (t' := tk) fun _ _ z => z, rfl, q⟩
/-- isinstance(x, C) within the clause that holds the exception -/
theorem s_iss {a : Addr} {dx : Option Addr} {oe : Obj} {pn : List (Addr × Obj)} {c C x : Str} {i : Nat} {D : Addr} {np xp cp cpos : Pos} (g : Gs X T P n W) (hD : X.mg c = some (.ref D)) (hz : Zc (.ref D) dx oe) (hf : ∃ vs, oe.data = .fields vs)
    (hi : X.N[i]? = some x) (hv : visB X.env.scope x = true) (ho : okN x = true) (h1 : glB X.env.scope "isinstance" = true) (h2 : glB X.env.scope C = true) (h3 : okN C = true) :
    PE (X.suite a ((a, oe) :: pn)) (.Call (.Name "isinstance" np) [.Name x xp, .Name C cp] [] cpos) (tK (X.suite a ((a, oe) :: pn)) P (fun _ _ _ _ => False) 0 (.iss a dx c i C)) := by
  have g1 : X.env.scope.names.lookup ("isinstance" : Str) = some .globalImplicit := of_decide_eq_true h1
  have g2 : X.env.scope.names.lookup C = some .globalImplicit := of_decide_eq_true h2
  cases qI : P.I c C with
  | none =>
    refine ⟨fun pins s σ H Q I h => ?_⟩
    obtain ⟨B, G, ρ, er, q⟩ := h
    exfalso
    simp only [ev] at q
    cases e : getS ρ i <;> rw [e] at q <;> try (exact q)
    simp only at q
    split at q
    · rw [qI] at q; exact q
    · exact q
  | some b =>
    obtain ⟨D', m1, ec, _, hk⟩ := g.iss c C b qI
    rw [hD] at m1
    cases m1
    have fin : ∀ (cv : V) (cu : Value), RelV cv cu → (∀ u, RelV cv u → u = cu) → PySem.W.kitOne X.K (.ref D) cu = some b → PE (X.suite a ((a, oe) :: pn)) (.Name C cp) (tC cv) →
        PE (X.suite a ((a, oe) :: pn)) (.Call (.Name "isinstance" np) [.Name x xp, .Name C cp] [] cpos) (tK (X.suite a ((a, oe) :: pn)) P (fun _ _ _ _ => False) 0 (.iss a dx c i C)) := fun cv cu r1 r2 r3 hc => by
      refine PE.imp (pe_callB (X := X.suite a ((a, oe) :: pn)) (call_isX ec hz hf) g1 (g.blt _ (by decide +kernel)) PyProof.Rows.boot_isinstance (pa_cons (pe_var hi (vis_of hv) (okN_d ho) (okN_c ho)) (pa_cons hc pa_nil)) (by decide) (by decide) rfl rfl) fun σ H Q ⟨B, G, ρ, er, q⟩ => ?_
      simp only [ev] at q
      cases e : getS ρ i <;> rw [e] at q <;> try (exact q.elim)
      rename_i a' dx' c' x'
      simp only at q
      split at q
      · rename_i hh
        obtain ⟨rfl, rfl, rfl⟩ := hh
        rw [qI] at q
        obtain ⟨o, h1, h2, h3⟩ := er.at_ i _ (getS_some e nofun)
        subst h2
        refine ⟨_, h1, cv, cu, b, rfl, r2, r3, ?_, q (.bl b) H G (Ext.refl er.sub) (.bl b)⟩
        cases x' with
        | none => exact .inl h3
        | some d' =>
          obtain ⟨b', v', e1, e2, _⟩ := h3
          exact .inr ⟨b', _, e1, e2⟩
      · exact q.elim
    rcases hk with ⟨C', m2, m3⟩ | ⟨rfl, m2, m3⟩
    · exact fin (.ref C') (.ref C') rfl (fun u r => by cases r; rfl) m3 (pe_glob g2 m2 rfl (okN_d h3))
    · have hb : bootBuiltins ("ValueError" : Str) = some (.type "ValueError") := by decide +kernel
      exact fin (.ty "ValueError") (.type "ValueError") rfl (fun u r => by cases r; rfl) m3 (pe_bltn g2 m2 hb rfl (okN_n h3) (okN_d h3))
theorem s_isEs {a : Addr} {dx : Option Addr} {oe : Obj} {pn : List (Addr × Obj)} {c x : Str} {i : Nat} {D : Addr} (g : Gs X T P n W) (hD : X.mg c = some (.ref D)) (hz : Zc (.ref D) dx oe) (hf : ∃ vs, oe.data = .fields vs)
    (hi : X.N[i]? = some x) (hv : visB X.env.scope x = true) (ho : okN x = true) (h1 : glB X.env.scope "isinstance" = true) : ∀ {xs : List Expr} {l : List Str}, isCs x xs = some l → (l.all fun C => glB X.env.scope C && okN C) = true →
      PA (X.suite a ((a, oe) :: pn)) xs (tA (X.suite a ((a, oe) :: pn)) P (fun _ _ _ _ => False) [] (isEs a dx c i l))
  | [], l, e, _ => by
    simp only [isCs] at e
    cases e
    exact PA.imp pa_nil fun σ H Q ⟨B, G, ρ, er, q⟩ => by
      simp only [isEs, evs] at q
      exact q [] H G (Ext.refl er.sub) .nil
  | e :: r, l, el, hl => by
    simp only [isCs] at el
    cases q1 : isC1 x e with
    | none => rw [q1] at el; cases el
    | some C =>
      cases q2 : isCs x r with
      | none => rw [q1, q2] at el; cases el
      | some Cs =>
        rw [q1, q2] at el
        cases el
        obtain ⟨np, xp, cp, pos, rfl⟩ := isC1_ok q1
        rw [List.all_cons, Bool.and_eq_true, Bool.and_eq_true] at hl
        have A := s_iss (a := a) (oe := oe) (pn := pn) (np := np) (xp := xp) (cp := cp) (cpos := pos) (P := P) g hD hz hf hi hv ho h1 hl.1.1 hl.1.2
        have R := s_isEs (a := a) (oe := oe) (pn := pn) g hD hz hf hi hv ho h1 q2 hl.2
        refine PA.imp (pa_cons A R rfl) fun σ H Q ⟨B, G, ρ, er, q⟩ => ?_
        simp only [isEs, evs] at q
        refine bndA er q fun d v H1 G1 x1 r1 er1 q1 => ?_
        refine ⟨B, G1, ρ, er1, ?_⟩
        cases e1 : evs P (isEs a dx c i Cs) ρ with
        | ok ds =>
          rw [e1] at q1
          intro vs H2 G2 x2 r2
          exact q1 (v :: vs) H2 G2 x2 (.cons (by
            have r3 : Rep X.K G2 v d := r1.mono x2.stl
            simpa using r3) r2)
        | exc c z => rw [e1] at q1; exact q1
        | bad => rw [e1] at q1; exact q1
/-- what the clause does, as terms -/
def isSs (a : Addr) (c : Str) (i j : Nat) (n1 n2 : List Str) : Ss := .cons (.set j (.tup (isEs a none c i n1))) (.cons (.set j (.bin .add (.var j) (.tup (isEs a none c i n2)))) .nil)
theorem is_run {a : Addr} {c : Str} {i j : Nat} {n1 n2 : List Str} {b1 b2 : List Bool} {ρ : En} (h1 : isAll (P.I c) n1 = some b1) (h2 : isAll (P.I c) n2 = some b2) (hi : i < ρ.length) (hj : j < ρ.length) (hij : i ≠ j) (hl : b1.length + b2.length ≤ 1000) :
    exSs P (isSs a c i j n1 n2) (ρ.set i (.ex a none c none)) = .nx (((ρ.set i (.ex a none c none)).set j (.fz (.tuple (b1.map .bool)))).set j (.fz (.tuple ((b1 ++ b2).map .bool)))) := by
  have g0 : getS (ρ.set i (.ex a none c none)) i = .ex a none c none := by
    unfold getS
    rw [List.getD_eq_getElem?_getD, List.getElem?_set_self hi]
    rfl
  have g1 : getS ((ρ.set i (.ex a none c none)).set j (.fz (.tuple (b1.map .bool)))) i = .ex a none c none := by
    unfold getS
    rw [List.getD_eq_getElem?_getD, List.getElem?_set_ne (fun z => hij z.symm), List.getElem?_set_self hi]
    rfl
  have g2 : getS ((ρ.set i (.ex a none c none)).set j (.fz (.tuple (b1.map .bool)))) j = .fz (.tuple (b1.map .bool)) := by
    unfold getS
    rw [List.getD_eq_getElem?_getD, List.getElem?_set_self (by rw [List.length_set]; exact hj)]
    rfl
  have l1 : (b1.map PyData.bool).length ≤ 1000000 := by rw [List.length_map]; omega
  have l2 : (b2.map PyData.bool).length ≤ 1000000 := by rw [List.length_map]; omega
  have e1 : ev P (.tup (isEs a none c i n1)) (ρ.set i (.ex a none c none)) = .ok (.tuple (b1.map .bool)) := by
    simp only [ev, evs_is g0 h1, ok_bind, if_pos l1]
  have e2 : ev P (.bin .add (.var j) (.tup (isEs a none c i n2))) ((ρ.set i (.ex a none c none)).set j (.fz (.tuple (b1.map .bool)))) = .ok (.tuple ((b1 ++ b2).map .bool)) := by
    have l3 : (b1.map PyData.bool).length + (b2.map PyData.bool).length ≤ 1000000 := by rw [List.length_map, List.length_map]; omega
    simp only [ev, g2, evs_is g1 h2, ok_bind, if_pos l2, binD, if_pos l3, List.map_append]
  simp only [isSs, exSs, exS, e1, e2, out_ok, thn_nx]
theorem s_tryI {c x z : Str} {i j : Nat} {n1 n2 : List Str} {e : E} {y : Expr} {xs ys : List Expr} {yp np hp tp zp p1 a1 zp' zq p2 p3 a2 : Pos} {k1 k2 : Nat} (g : Gs X T P n W) (hcl : T.cl = false) (hg : glB X.env.scope c = true) (ho : okN c = true) (hm : ∃ C, X.mg c = some (.ref C)) (hy : isLc y = false) (he : okE T n X.N X.env.scope e y = true)
    (hi : X.N[i]? = some x) (hx : locB X.env.scope x = true) (hxo : okN x = true) (hj : X.N[j]? = some z) (hs : stoB X.env.scope z = true) (hv : visB X.env.scope z = true) (hzo : okN z = true) (hI : glB X.env.scope "isinstance" = true) (q1 : isCs x xs = some n1) (q2 : isCs x ys = some n2)
    (ha : ((n1 ++ n2).all fun C => glB X.env.scope C && okN C) = true) :
    PS X (.Try [.Expr y yp] [.ExceptHandler (some (.Name c np)) (some x) [.Assign [.Name z zp] (.Tuple xs k1 p1) a1, .Assign [.Name z zp'] (.BinOp (.Name z zq) .Add (.Tuple ys k2 p2) p3) a2] hp] [] [] tp) (tS X W fr (exS P (.tryI e c i j n1 n2))) := by
  obtain ⟨C, hC⟩ := hm
  have hg' : X.env.scope.names.lookup c = some .globalImplicit := of_decide_eq_true hg
  have hln : X.env.kindOf x = some .local := of_decide_eq_true hx
  have hxv : visB X.env.scope x = true := by
    unfold visB
    have : X.env.scope.names.lookup x = some .local := hln
    rw [this]
  rw [List.all_append, Bool.and_eq_true] at ha
  refine PS.imp (ps_try_as (ts := fun a cls d D σ H => ∃ c' D', X.mg c' = some (.ref D') ∧ cls = .ref D' ∧ d = none ∧ tS X (fun _ _ _ _ => False) 0 (exSs P (isSs a c' i j n1 n2)) D σ H) (tb := fun W' => tDrop (tK X P W' (kd T e) e)) g.stk g.frm g.nd hi hln ⟨hg', okN_d ho, .inl hC⟩ (tk_low g hcl)
    (fun W' pn xe tk ps => pss_one (ps_expr (snd_E e (X.tr pn xe) W' y (g.tr0 hcl tk ps).toGd he).pe (swaps_plain hy))) fun a oe cls d pn hz hf => ?_) fun D σ H ⟨He, Ge, G, ρ, s, q⟩ => ?_
  · refine ⟨fun pins s σ H D I h => ?_⟩
    obtain ⟨c', D', m1, rfl, rfl, h⟩ := h
    have A1 := s_isEs (a := a) (oe := oe) (pn := pn) (P := P) (i := i) g m1 hz hf hi hxv hxo hI q1 ha.1
    have A2 := s_isEs (a := a) (oe := oe) (pn := pn) (P := P) (i := i) g m1 hz hf hi hxv hxo hI q2 ha.2
    have t1 := s_tup (k := k1) (pos := p1) A1
    have t2 := s_tup (k := k2) (pos := p2) A2
    have vz : PE (X.suite a ((a, oe) :: pn)) (.Name z zq) (tK (X.suite a ((a, oe) :: pn)) P (fun _ _ _ _ => False) 0 (.var j)) := s_var (X := X.suite a ((a, oe) :: pn)) (T := T) (n := n) (i := j) (nm := z) (by
      simp only [okE, Bool.and_eq_true, decide_eq_true_eq]
      exact ⟨⟨hj, hv⟩, hzo⟩)
    have b2 := s_bin (o := .add) (pos := p3) vz t2
    have P1 := PS.imp (ps_set (X := X.suite a ((a, oe) :: pn)) (pos := a1) (pos' := zp) g.nd hj (loc_sto hs) t1 (swaps_plain rfl) (.inl (g.fnT _))) (c_set (W := fun _ _ _ _ => False) (fr := 0))
    have P2 := PS.imp (ps_set (X := X.suite a ((a, oe) :: pn)) (pos := a2) (pos' := zp') g.nd hj (loc_sto hs) b2 (swaps_plain rfl) (.inl (g.fnT _))) (c_set (W := fun _ _ _ _ => False) (fr := 0))
    have A : PSs (X.suite a ((a, oe) :: pn)) [.Assign [.Name z zp] (.Tuple xs k1 p1) a1, .Assign [.Name z zp'] (.BinOp (.Name z zq) .Add (.Tuple ys k2 p2) p3) a2] (tS (X.suite a ((a, oe) :: pn)) (fun _ _ _ _ => False) 0 (exSs P (isSs a c' i j n1 n2))) := by
      refine PSs.imp (pss_cons P1 (pss_cons P2 pss_nil)) fun D σ H ⟨He, Ge, G, ρ, z, q⟩ => ?_
      simp only [isSs, exSs] at q
      refine ⟨He, Ge, G, ρ, z, ?_⟩
      cases qo : exS P (.set j (.tup (isEs a none c' i n1))) ρ with
      | nx ρ5 =>
        rw [qo] at q
        refine fun σ6 H6 G6 s6 => ⟨He, Ge, G6, ρ5, s6, ?_⟩
        simp only [thn_nx] at q
        cases qo2 : exS P (.set j (.bin .add (.var j) (.tup (isEs a none c' i n2)))) ρ5 with
        | nx ρ7 => rw [qo2] at q; exact q
        | ct ρ7 => rw [qo2] at q; exact q
        | ret d => rw [qo2] at q; exact q
        | exc c z => rw [qo2] at q; exact q
        | bad => rw [qo2] at q; exact q
      | ct ρ5 => rw [qo] at q; exact q
      | ret d => rw [qo] at q; exact q
      | exc c z => rw [qo] at q; exact q
      | bad => rw [qo] at q; exact q
    exact A.run pins s σ H D I h
  · simp only [exS] at q
    refine ⟨He, G, ρ, s.er, ?_⟩
    cases qe : ev P e ρ with
    | ok d =>
      rw [qe] at q
      exact fun v H1 G1 x1 r1 => q σ H1 G1 (s.on x1)
    | bad => rw [qe] at q; exact q.elim
    | exc c' w =>
      rw [qe] at q
      simp only [tryIO] at q
      cases qm : P.X c' c with
      | none => rw [qm] at q; exact q.elim
      | some b =>
        rw [qm] at q
        obtain ⟨C1, C2, m1, m2, m3⟩ := g.exm c' c b qm
        rw [hC] at m2
        cases m2
        intro cls dx H1 G1 x1 r1
        obtain ⟨⟨C3, m4, rfl⟩, r2⟩ := r1
        rw [m1] at m4
        cases m4
        refine ⟨b, m3, fun hb a na => ?_, fun hb => ?_⟩
        · subst hb
          simp only at q
          cases w with
          | some _ => exact q.elim
          | none =>
            cases w1 : isAll (P.I c') n1 with
            | none => rw [w1] at q; exact q.elim
            | some b1 =>
              cases w2 : isAll (P.I c') n2 with
              | none => rw [w1, w2] at q; exact q.elim
              | some b2 =>
                rw [w1, w2] at q
                simp only at q
                split at q
                · rename_i hh
                  obtain ⟨l1, l2, l3, l4⟩ := hh
                  refine ⟨c', C1, m1, rfl, r2, He, Ge, G1, _, (s.on x1).setX i a c', ?_⟩
                  rw [is_run w1 w2 l1 l2 l3 l4]
                  intro σ5 H5 G5 s5
                  have s6 := s5.unset i (o := none)
                  have e : (((ρ.set i (.ex a none c' none)).set j (.fz (.tuple (b1.map .bool)))).set j (.fz (.tuple ((b1 ++ b2).map .bool)))).set i .un = (ρ.set j (.fz (.tuple ((b1 ++ b2).map .bool)))).set i .un := by
                    rw [List.set_set, List.set_comm _ _ (fun z => l3 z), List.set_set]
                  rw [e] at s6
                  exact q _ H5 G5 s6
                · exact q.elim
        · subst hb
          exact q _ dx σ H1 G1 (s.ext.trans x1) ⟨⟨C1, m1, rfl⟩, r2⟩
/-- a statement, then others -/
theorem pss_S {X : Cx} {W : WX} {fr : Nat} {st : Stmt} {sts : List Stmt} {s : S} {r : Ss} (A : PS X st (tS X W fr (exS P s))) (B : PSs X sts (tS X W fr (exSs P r))) : PSs X (st :: sts) (tS X W fr (exSs P (.cons s r))) := by
  refine PSs.imp (pss_cons A B) fun D σ H ⟨He, Ge, G, ρ, z, q⟩ => ?_
  simp only [exSs] at q
  refine ⟨He, Ge, G, ρ, z, ?_⟩
  cases qo : exS P s ρ with
  | nx ρ5 => rw [qo] at q; exact fun σ6 H6 G6 s6 => ⟨He, Ge, G6, ρ5, s6, q⟩
  | ct ρ5 => rw [qo] at q; exact q
  | ret d => rw [qo] at q; exact q
  | exc c z => rw [qo] at q; exact q
  | bad => rw [qo] at q; exact q
/-- a slot's thing is an exception with a row -/
theorem SR.setXr {He Ge H G : Hp} {ρ : En} {σ : L2.St} (s : SR X.K He Ge ρ σ H G) (i : Nat) (a : Addr) (c : Str) {dx : Addr} {v : V} {d : Dat} (hx : H dx = some (.xd [(("row" : Str), v)])) (rv : Rep X.K G v d) : SR X.K He Ge (ρ.set i (.ex a (some dx) c (some d))) (σ.set i (some (.ref a))) H G := by
  have key : ∀ (j : Nat) (ds : List Dat), (ρ.set i (.ex a (some dx) c (some d)))[j]? = some (.ow ds) → j ≠ i ∧ ρ[j]? = some (.ow ds) := fun j ds e => by
    by_cases h : i = j
    · subst h
      rw [List.getElem?_set] at e
      simp at e
    · rw [List.getElem?_set_ne h] at e
      exact ⟨fun z => h z.symm, e⟩
  refine ⟨s.ext, ⟨s.er.bas, s.er.sub, by simp [s.er.len], fun j z e => ?_⟩, fun j ds b e1 e2 => ?_, fun j k ds es b hjk e1 e2 e3 e4 => ?_⟩
  · by_cases h : i = j
    · subst h
      have hi : i < ρ.length := by
        by_cases hi : i < ρ.length
        · exact hi
        · rw [List.getElem?_eq_none (by rw [List.length_set]; omega)] at e; cases e
      rw [List.getElem?_set_self hi] at e
      cases e
      exact ⟨_, List.getElem?_set_self (by rw [← s.er.len]; exact hi), rfl, dx, v, rfl, hx, rv⟩
    · rw [List.getElem?_set_ne h] at e
      obtain ⟨o, h1, h2⟩ := s.er.at_ j z e
      exact ⟨o, by rw [List.getElem?_set_ne h]; exact h1, h2⟩
  · obtain ⟨n1, e1⟩ := key j ds e1
    rw [List.getElem?_set_ne (fun z => n1 z.symm)] at e2
    exact s.own j ds b e1 e2
  · obtain ⟨n1, e1⟩ := key j ds e1
    obtain ⟨n2, e2⟩ := key k es e2
    rw [List.getElem?_set_ne (fun z => n1 z.symm)] at e3
    rw [List.getElem?_set_ne (fun z => n2 z.symm)] at e4
    exact s.sep j k ds es b hjk e1 e2 e3 e4
theorem s_row {a : Addr} {dx : Option Addr} {oe : Obj} {pn : List (Addr × Obj)} {c x : Str} {i : Nat} {D : Addr} {xp rp : Pos} (g : Gs X T P n W) (ec : ExcC X.K D) (hno : PySem.W.findIn X.K (.ref D) "row" = some none) (hz : Zc (.ref D) dx oe) (hf : ∃ vs, oe.data = .fields vs)
    (hi : X.N[i]? = some x) (hv : visB X.env.scope x = true) (ho : okN x = true) : PE (X.suite a ((a, oe) :: pn)) (.Attribute (.Name x xp) "row" rp) (tK (X.suite a ((a, oe) :: pn)) P (fun _ _ _ _ => False) 0 (.xrw a dx c i)) := by
  refine PE.imp (pe_xf (X := X) ⟨ec.hg, ec.hk, ec.hs, ec.hd⟩ hno hz hf (pe_var (X := X.suite a ((a, oe) :: pn)) hi (vis_of hv) (okN_d ho) (okN_c ho))) fun σ H Q ⟨B, G, ρ, er, q⟩ => ?_
  simp only [ev] at q
  cases e : getS ρ i <;> rw [e] at q <;> try (exact q.elim)
  rename_i a' dx' c' x'
  cases x' with
  | none => exact q.elim
  | some d =>
    simp only at q
    split at q
    · rename_i hh
      obtain ⟨rfl, rfl, rfl⟩ := hh
      obtain ⟨o, h1, h2, dd, v, h3, h4, h5⟩ := er.at_ i _ (getS_some e nofun)
      subst h2
      exact ⟨_, h1, rfl, rfl, dd, _, v, h3, h4, by simp [List.lookup], q v H G (Ext.refl er.sub) h5⟩
    · exact q.elim
theorem pa_two {X : Cx} {W : WX} {e : Expr} {es : List Expr} {t : E} {r : Es} (A : PE X e (tK X P W 0 t)) (R : PA X es (tA X P W [] r)) (hs : starEach (e :: es) X.env = (false, eval e X.env) :: starEach es X.env) : PA X (e :: es) (tA X P W [] (.cons t r)) := by
  refine PA.imp (pa_cons A R hs) fun σ H Q ⟨B, G, ρ, er, q⟩ => ?_
  simp only [evs] at q
  refine bndA er q fun d v H1 G1 x1 r1 er1 q1 => ?_
  refine ⟨B, G1, ρ, er1, ?_⟩
  cases e1 : evs P r ρ with
  | ok ds =>
    rw [e1] at q1
    intro vs H2 G2 x2 r2
    exact q1 (v :: vs) H2 G2 x2 (.cons (by
      have r3 : Rep X.K G2 v d := Rep.mono x2.stl r1
      simpa using r3) r2)
  | exc c z => rw [e1] at q1; exact q1
  | bad => rw [e1] at q1; exact q1
/-- the clause's statements, as terms -/
def addSs (a : Addr) (dx : Option Addr) (c : Str) (i j : Nat) : List (List Str) → Ss
  | [] => .nil
  | n :: r => .cons (.set j (.bin .add (.var j) (.tup (isEs a dx c i n)))) (addSs a dx c i j r)
def rowSs (a : Addr) (dx : Option Addr) (c : Str) (i j : Nat) (n : List Str) (r : List (List Str)) : Ss := .cons (.set j (.tup (.cons (.xrw a dx c i) (isEs a dx c i n)))) (addSs a dx c i j r)
theorem isAll_app {f : Str → Option Bool} : ∀ {n m : List Str} {bs : List Bool}, isAll f (n ++ m) = some bs → ∃ b1 b2, isAll f n = some b1 ∧ isAll f m = some b2 ∧ bs = b1 ++ b2
  | [], m, bs, h => ⟨[], bs, rfl, h, rfl⟩
  | c :: n, m, bs, h => by
    simp only [List.cons_append, isAll] at h
    cases q1 : f c with
    | none => rw [q1] at h; cases h
    | some b =>
      cases q2 : isAll f (n ++ m) with
      | none => rw [q1, q2] at h; cases h
      | some bs' =>
        rw [q1, q2] at h
        cases h
        obtain ⟨b1, b2, e1, e2, rfl⟩ := isAll_app q2
        exact ⟨b :: b1, b2, by simp only [isAll, q1, e1], e2, rfl⟩
theorem add_run {a : Addr} {dx : Option Addr} {c : Str} {i j : Nat} {x : Option Dat} : ∀ {ns : List (List Str)} {bs : List Bool} {ds : List Dat} {ρ : En}, isAll (P.I c) ns.flatten = some bs → getS ρ i = .ex a dx c x → i ≠ j → j < ρ.length → ds.length + bs.length ≤ 2000 →
    exSs P (addSs a dx c i j ns) (ρ.set j (.fz (.tuple ds))) = .nx (ρ.set j (.fz (.tuple (ds ++ bs.map .bool))))
  | [], bs, ds, ρ, h, _, _, _, _ => by
    simp only [List.flatten_nil, isAll] at h
    cases h
    simp only [addSs, exSs, List.map_nil, List.append_nil]
  | n :: r, bs, ds, ρ, h, hi, hij, hj, hl => by
    rw [List.flatten_cons] at h
    obtain ⟨b1, b2, e1, e2, rfl⟩ := isAll_app h
    rw [List.length_append] at hl
    have g1 : getS (ρ.set j (.fz (.tuple ds))) i = .ex a dx c x := by
      unfold getS at hi ⊢
      rw [List.getD_eq_getElem?_getD] at hi ⊢
      rw [List.getElem?_set_ne (fun z => hij z.symm)]
      exact hi
    have g2 : getS (ρ.set j (.fz (.tuple ds))) j = .fz (.tuple ds) := by
      unfold getS
      rw [List.getD_eq_getElem?_getD, List.getElem?_set_self hj]
      rfl
    have l1 : (b1.map PyData.bool).length ≤ 1000000 := by rw [List.length_map]; omega
    have l2 : ds.length + (b1.map PyData.bool).length ≤ 1000000 := by rw [List.length_map]; omega
    have e3 : ev P (.bin .add (.var j) (.tup (isEs a dx c i n))) (ρ.set j (.fz (.tuple ds))) = .ok (.tuple (ds ++ b1.map .bool)) := by
      simp only [ev, g2, evs_is g1 e1, ok_bind, if_pos l1, binD, if_pos l2]
    have ih := add_run (ns := r) (bs := b2) (ds := ds ++ b1.map .bool) e2 hi hij hj (by rw [List.length_append, List.length_map]; omega)
    simp only [addSs, exSs, exS, e3, out_ok, thn_nx, List.set_set]
    rw [ih, List.map_append, List.append_assoc]
theorem row_run {a : Addr} {dx : Option Addr} {c : Str} {i j : Nat} {n : List Str} {r : List (List Str)} {bs : List Bool} {d : Dat} {ρ : En} (h : isAll (P.I c) (n :: r).flatten = some bs) (hi : i < ρ.length) (hj : j < ρ.length) (hij : i ≠ j) (hl : bs.length ≤ 1000) :
    exSs P (rowSs a dx c i j n r) (ρ.set i (.ex a dx c (some d))) = .nx ((ρ.set i (.ex a dx c (some d))).set j (.fz (.tuple (d :: bs.map .bool)))) := by
  rw [List.flatten_cons] at h
  obtain ⟨b1, b2, e1, e2, rfl⟩ := isAll_app h
  rw [List.length_append] at hl
  have g0 : getS (ρ.set i (.ex a dx c (some d))) i = .ex a dx c (some d) := by
    unfold getS
    rw [List.getD_eq_getElem?_getD, List.getElem?_set_self hi]
    rfl
  have l1 : (d :: b1.map PyData.bool).length ≤ 1000000 := by rw [List.length_cons, List.length_map]; omega
  have e3 : ev P (.tup (.cons (.xrw a dx c i) (isEs a dx c i n))) (ρ.set i (.ex a dx c (some d))) = .ok (.tuple (d :: b1.map .bool)) := by
    simp only [ev, evs, g0, evs_is g0 e1, ok_bind, if_pos l1, and_self, if_true]
  have z := add_run (P := P) (a := a) (dx := dx) (c := c) (i := i) (j := j) (x := some d) (ns := r) (bs := b2) (ds := d :: b1.map .bool) (ρ := ρ.set i (.ex a dx c (some d))) e2 g0 hij (by rw [List.length_set]; exact hj) (by rw [List.length_cons, List.length_map]; omega)
  simp only [rowSs, exSs, exS, e3, out_ok, thn_nx]
  rw [z, List.map_append, List.cons_append]
theorem s_restR {a : Addr} {dx : Option Addr} {oe : Obj} {pn : List (Addr × Obj)} {c x z : Str} {i j : Nat} {D : Addr} (g : Gs X T P n W) (hD : X.mg c = some (.ref D)) (hz : Zc (.ref D) dx oe) (hf : ∃ vs, oe.data = .fields vs)
    (hi : X.N[i]? = some x) (hv : visB X.env.scope x = true) (ho : okN x = true) (hj : X.N[j]? = some z) (hs : stoB X.env.scope z = true) (hvz : visB X.env.scope z = true) (hoz : okN z = true) (h1 : glB X.env.scope "isinstance" = true) :
    ∀ {sts : List Stmt} {ns : List (List Str)}, restR x z sts = some ns → (ns.flatten.all fun C => glB X.env.scope C && okN C) = true → PSs (X.suite a ((a, oe) :: pn)) sts (tS (X.suite a ((a, oe) :: pn)) (fun _ _ _ _ => False) 0 (exSs P (addSs a dx c i j ns)))
  | [], ns, e, _ => by
    simp only [restR] at e
    cases e
    exact PSs.imp pss_nil fun D σ H ⟨He, Ge, G, ρ, s, q⟩ => by
      simp only [addSs, exSs] at q
      exact q σ H G s
  | s :: sts, ns, e, ha => by
    obtain ⟨zp, zq, xs, k, p, pos, pos2, n1, ns', rfl, q1, q2, rfl⟩ := restR_ok e
    rw [List.flatten_cons, List.all_append, Bool.and_eq_true] at ha
    have A2 := s_isEs (a := a) (dx := dx) (oe := oe) (pn := pn) (P := P) (i := i) g hD hz hf hi hv ho h1 q1 ha.1
    have t2 := s_tup (k := k) (pos := p) A2
    have vz : PE (X.suite a ((a, oe) :: pn)) (.Name z zq) (tK (X.suite a ((a, oe) :: pn)) P (fun _ _ _ _ => False) 0 (.var j)) := s_var (X := X.suite a ((a, oe) :: pn)) (T := T) (n := n) (i := j) (nm := z) (by
      simp only [okE, Bool.and_eq_true, decide_eq_true_eq]
      exact ⟨⟨hj, hvz⟩, hoz⟩)
    have b2 := s_bin (o := .add) (pos := pos) vz t2
    have P2 := PS.imp (ps_set (X := X.suite a ((a, oe) :: pn)) (pos := pos2) (pos' := zp) g.nd hj (loc_sto hs) b2 (swaps_plain rfl) (.inl (g.fnT _))) (c_set (W := fun _ _ _ _ => False) (fr := 0))
    exact pss_S P2 (s_restR g hD hz hf hi hv ho hj hs hvz hoz h1 q2 ha.2)
theorem s_tryR {e : E} {c : Str} {i j : Nat} {ns : List (List Str)} {st : Stmt} (g : Gs X T P n W) (h : okTryR T n X.N X.env.scope e c i j ns st = true) : PS X st (tS X W fr (exS P (.tryR e c i j ns))) := by
  unfold okTryR at h
  cases qt : tryA c st with
  | none => rw [qt] at h; cases h
  | some p0 =>
    obtain ⟨b, x, sts⟩ := p0
    rw [qt] at h
    obtain ⟨np, hp, tp, rfl⟩ := tryA_ok qt
    simp only at h
    cases qb : expr1 b with
    | none => rw [qb] at h; cases sts <;> cases h
    | some y =>
      cases sts with
      | nil => rw [qb] at h; cases h
      | cons s0 r =>
        rw [qb] at h
        simp only at h
        cases q0 : firstR x s0 with
        | none => rw [q0] at h; cases h
        | some p1 =>
          obtain ⟨z, n0⟩ := p1
          rw [q0] at h
          simp only at h
          cases qr : restR x z r with
          | none => rw [qr] at h; cases h
          | some nr =>
            rw [qr] at h
            simp only [Bool.and_eq_true, decide_eq_true_eq, Bool.not_eq_true'] at h
            obtain ⟨⟨⟨⟨⟨⟨⟨⟨⟨⟨⟨⟨⟨⟨⟨⟨rfl, hne⟩, hg⟩, ho⟩, hx⟩, hcl⟩, hy⟩, he⟩, hi⟩, hxl⟩, hxo⟩, hj⟩, hs⟩, hv⟩, hzo⟩, hI⟩, ha⟩ := h
            obtain ⟨yp, rfl⟩ := expr1_ok qb
            obtain ⟨zp, xp, rp, xs, k, p, pos1, rfl, q3⟩ := firstR_ok q0
            have hC : ∃ C, X.mg c = some (.ref C) := by
              rw [Bool.or_eq_true] at hx
              rcases hx with hx | hx
              · obtain ⟨C, h, _⟩ := g.exs _ (List.contains_iff_mem.mp hx)
                exact ⟨C, h⟩
              · obtain ⟨C, h, _⟩ := g.exr _ (List.contains_iff_mem.mp hx)
                exact ⟨C, h⟩
            obtain ⟨C, hC⟩ := hC
            have hg' : X.env.scope.names.lookup c = some .globalImplicit := of_decide_eq_true hg
            have hln : X.env.kindOf x = some .local := of_decide_eq_true hxl
            have hxv : visB X.env.scope x = true := by
              unfold visB
              have : X.env.scope.names.lookup x = some .local := hln
              rw [this]
            have ha' := ha
            rw [List.flatten_cons, List.all_append, Bool.and_eq_true] at ha'
            refine PS.imp (ps_try_as (ts := fun a cls d D σ H => ∃ c' D', X.mg c' = some (.ref D') ∧ cls = .ref D' ∧ ExcC X.K D' ∧ PySem.W.findIn X.K (.ref D') "row" = some none ∧ tS X (fun _ _ _ _ => False) 0 (exSs P (rowSs a d c' i j n0 nr)) D σ H) (tb := fun W' => tDrop (tK X P W' (kd T e) e)) g.stk g.frm g.nd hi hln ⟨hg', okN_d ho, .inl hC⟩ (tk_low g hcl)
              (fun W' pn xe tk ps => pss_one (ps_expr (snd_E e (X.tr pn xe) W' y (g.tr0 hcl tk ps).toGd he).pe (swaps_plain hy))) fun a oe cls d pn hz hf => ?_) fun D σ H ⟨He, Ge, G, ρ, s, q⟩ => ?_
            · refine ⟨fun pins s σ H D I h => ?_⟩
              obtain ⟨c', D', m1, rfl, ec, hno, h⟩ := h
              have A0 := s_row (a := a) (oe := oe) (pn := pn) (P := P) (c := c') (i := i) (xp := xp) (rp := rp) g ec hno hz hf hi hxv hxo
              have A1 := s_isEs (a := a) (oe := oe) (pn := pn) (P := P) (i := i) g m1 hz hf hi hxv hxo hI q3 ha'.1
              have t1 := s_tup (k := k) (pos := p) (pa_two A0 A1 rfl)
              have P1 := PS.imp (ps_set (X := X.suite a ((a, oe) :: pn)) (pos := pos1) (pos' := zp) g.nd hj (loc_sto hs) t1 (swaps_plain rfl) (.inl (g.fnT _))) (c_set (W := fun _ _ _ _ => False) (fr := 0))
              exact (pss_S P1 (s_restR g m1 hz hf hi hxv hxo hj hs hv hzo hI qr ha'.2)).run pins s σ H D I h
            · simp only [exS] at q
              refine ⟨He, G, ρ, s.er, ?_⟩
              cases qe : ev P e ρ with
              | ok d =>
                rw [qe] at q
                exact fun v H1 G1 x1 r1 => q σ H1 G1 (s.on x1)
              | bad => rw [qe] at q; exact q.elim
              | exc c' w =>
                rw [qe] at q
                simp only [tryRO] at q
                cases qm : P.X c' c with
                | none => rw [qm] at q; exact q.elim
                | some b =>
                  rw [qm] at q
                  obtain ⟨C1, C2, m1, m2, m3⟩ := g.exm c' c b qm
                  rw [hC] at m2
                  cases m2
                  intro cls dx H1 G1 x1 r1
                  obtain ⟨⟨C3, m4, rfl⟩, r2⟩ := r1
                  rw [m1] at m4
                  cases m4
                  refine ⟨b, m3, fun hb a na => ?_, fun hb => ?_⟩
                  · subst hb
                    simp only at q
                    cases w with
                    | none => exact q.elim
                    | some d =>
                      cases w1 : isAll (P.I c') (n0 :: nr).flatten with
                      | none => rw [w1] at q; exact q.elim
                      | some bs =>
                        rw [w1] at q
                        simp only at q
                        split at q
                        · rename_i hh
                          obtain ⟨l1, l2, l3, l4⟩ := hh
                          obtain ⟨dd, v, e1, e2, e3⟩ := r2
                          subst e1
                          have hec : ExcC X.K C1 ∧ PySem.W.findIn X.K (.ref C1) "row" = some none := by
                            cases qf : (n0 :: nr).flatten with
                            | nil => rw [qf] at hne; cases hne
                            | cons C0 rest =>
                              rw [qf] at w1
                              simp only [isAll] at w1
                              cases qI : P.I c' C0 with
                              | none => rw [qI] at w1; cases w1
                              | some b0 =>
                                obtain ⟨D', k1, k2, k3, _⟩ := g.iss c' C0 b0 qI
                                rw [m1] at k1
                                cases k1
                                exact ⟨k2, k3⟩
                          refine ⟨c', C1, m1, rfl, hec.1, hec.2, He, Ge, G1, _, (s.on x1).setXr i a c' e2 e3, ?_⟩
                          rw [row_run w1 l1 l2 l3 l4]
                          intro σ5 H5 G5 s5
                          have s6 := s5.unset i (o := none)
                          have e : ((ρ.set i (.ex a (some dd) c' (some d))).set j (.fz (.tuple (d :: bs.map .bool)))).set i .un = (ρ.set j (.fz (.tuple (d :: bs.map .bool)))).set i .un := by
                            rw [List.set_comm _ _ (fun z => l3 z), List.set_set]
                          rw [e] at s6
                          exact q _ H5 G5 s6
                        · exact q.elim
                  · subst hb
                    exact q _ dx σ H1 G1 (s.ext.trans x1) ⟨⟨C1, m1, rfl⟩, r2⟩
/-- parts, of which some are new lists -/
inductive RAsF (K : PySem.W.Frag) (H G : Hp) : List Bool → List V → List Dat → Prop
  | nil {fl : List Bool} : RAsF K H G fl [] []
  | cons {b : Bool} {fl : List Bool} {v : V} {vs : List V} {d : Dat} {ds : List Dat} : Rep K G v d → (b = true → FreshL K H G v d) → RAsF K H G fl vs ds → RAsF K H G (b :: fl) (v :: vs) (d :: ds)
theorem RAsF.reps {K : PySem.W.Frag} {H G : Hp} : ∀ {fl : List Bool} {vs : List V} {ds : List Dat}, RAsF K H G fl vs ds → Reps K G vs ds
  | _, _, _, .nil => .nil
  | _, _, _, .cons r _ t => .cons r t.reps
theorem FreshL.mono {K : PySem.W.Frag} {H G G' : Hp} {v : V} {d : Dat} (s : Same G G') (f : FreshL K H G v d) : FreshL K H G' v d := fun ds e => by
  obtain ⟨a, vs, e1, e2, e3, e4⟩ := f ds e
  exact ⟨a, vs, e1, e2, s _ _ e3, e4.mono s⟩
theorem FreshL.back {K : PySem.W.Frag} {H H1 G : Hp} {v : V} {d : Dat} (s : Same H H1) (f : FreshL K H1 G v d) : FreshL K H G v d := fun ds e => by
  obtain ⟨a, vs, e1, e2, e3, e4⟩ := f ds e
  exact ⟨a, vs, e1, s.free e2, e3, e4⟩
theorem RAsF.back {K : PySem.W.Frag} {H H1 G : Hp} (s : Same H H1) : ∀ {fl : List Bool} {vs : List V} {ds : List Dat}, RAsF K H1 G fl vs ds → RAsF K H G fl vs ds
  | _, _, _, .nil => .nil
  | _, _, _, .cons r f t => .cons r (fun b => (f b).back s) (t.back s)
theorem RAsF.at_ {K : PySem.W.Frag} {H G : Hp} : ∀ {fl : List Bool} {vs : List V} {ds : List Dat}, RAsF K H G fl vs ds → ∀ (i : Nat) (u : V) (e : Dat), vs[i]? = some u → ds[i]? = some e → fl[i]? = some true → FreshL K H G u e
  | _, _, _, .nil, i, u, e, h, _, _ => by simp at h
  | _, _, _, .cons r f t, 0, u, e, h1, h2, h3 => by
    simp at h1 h2 h3
    subst h1 h2
    exact f h3
  | _, _, _, .cons r f t, i + 1, u, e, h1, h2, h3 => t.at_ i u e (by simpa using h1) (by simpa using h2) (by simpa using h3)
def EndAF (X : Cx) (W : WX) (fl : List Bool) (σ : L2.St) (H G : Hp) (Q : List V → Hp → Prop) : Res (List Dat) → Prop
  | .ok ds => ∀ vs H' G', Ext H G H' G' → RAsF X.K H G' fl vs ds → Q vs H'
  | .exc c x => ∀ cls dx H' G', Ext H G H' G' → XR X.K X.mg H' G' cls dx c x → W cls dx σ H'
  | .bad => False
def tAF (X : Cx) (P : Pg) (W : WX) (fl : List Bool) (es : Es) : TA := fun σ H Q => ∃ B G ρ, ER X.K B ρ σ H G ∧ EndAF X W fl σ H G Q (evs P es ρ)
theorem own_frz {K : PySem.W.Frag} {H G H' G' : Hp} {v : V} {d : Dat} (x : Ext H G H' G') (r : RK K 2 H H' G' v d) : ∃ G2, Ext H G H' G2 ∧ Rep K G2 v d ∧ FreshL K H G2 v d := by
  obtain ⟨a, vs, ds, rfl, rfl, na, ga, ha, rr⟩ := r
  have g1 : Same G' (upd G' a (.lst vs)) := fun b u q => by rw [upd_ne (ne_of_none q ga)]; exact q
  refine ⟨upd G' a (.lst vs), ⟨x.all, x.stl.trans g1, fun b u q => ?_, fun b q => ?_⟩, .lst (SqL.of upd_same) (rr.mono g1), fun es e => ?_⟩
  · by_cases hb : b = a
    · subst hb; rw [upd_same] at q; rw [← q]; exact ha
    · rw [upd_ne hb] at q; exact x.sub _ _ q
  · by_cases hb : b = a
    · subst hb; exact .inr na
    · rw [upd_ne hb] at q; exact x.new b q
  · cases e
    exact ⟨a, vs, rfl, na, upd_same, rr.mono g1⟩
theorem snd_AF : ∀ (es : Es) (X : Cx) (W : WX) (xs : List Expr), Gd X T P n W → okEs T n X.N X.env.scope [] es xs = true → PA X xs (tAF X P W (flE T es) es)
  | .nil, X, W, xs, g, h => by
    cases xs with
    | nil =>
      exact PA.imp pa_nil fun σ H Q ⟨B, G, ρ, er, q⟩ => by
        simp only [evs] at q
        exact q [] H G (Ext.refl er.sub) .nil
    | cons _ _ => simp [okEs] at h
  | .cons e r, X, W, xs, g, h => by
    cases xs with
    | nil => simp [okEs] at h
    | cons x xs =>
      simp only [okEs, Bool.and_eq_true, Bool.or_eq_true, bne_iff_ne] at h
      obtain ⟨⟨⟨h1, h2⟩, h3⟩, h4⟩ := h
      have A := (snd_E (P := P) e X W _ g h2).pe
      have R := snd_AF r X W _ g h4
      have hk : kd T e ≠ 1 := h3.resolve_right (by simp)
      by_cases h2k : kd T e = 2
      · rw [h2k] at A
        refine PA.imp (pa_cons A R (star_cons h1)) fun σ H Q ⟨B, G, ρ, er, q⟩ => ?_
        simp only [evs] at q
        refine ⟨B, G, ρ, er, ?_⟩
        cases qe : ev P e ρ with
        | exc c z => rw [qe] at q; exact q
        | bad => rw [qe] at q; exact q
        | ok d =>
          rw [qe] at q
          intro v H1 G1 x1 r1
          obtain ⟨G2, x2, rr, fr⟩ := own_frz x1 r1
          refine ⟨B, G2, ρ, er.ext x2, ?_⟩
          cases e1 : evs P r ρ with
          | ok ds =>
            rw [e1] at q
            intro vs H3 G3 x3 r3
            refine q (v :: vs) H3 G3 (x2.trans x3) ?_
            rw [flE]
            exact .cons (rr.mono x3.stl) (fun _ => fr.mono x3.stl) (r3.back x2.all)
          | exc c z => rw [e1] at q; exact fun cls dx H' G' y w => q cls dx H' G' (x2.trans y) w
          | bad => rw [e1] at q; exact q
      · refine PA.imp (pa_cons (stillE hk A) R (star_cons h1)) fun σ H Q ⟨B, G, ρ, er, q⟩ => ?_
        simp only [evs] at q
        refine ⟨B, G, ρ, er, ?_⟩
        cases qe : ev P e ρ with
        | exc c z => rw [qe] at q; exact q
        | bad => rw [qe] at q; exact q
        | ok d =>
          rw [qe] at q
          intro v H1 G1 x1 r1
          refine ⟨B, G1, ρ, er.ext x1, ?_⟩
          cases e1 : evs P r ρ with
          | ok ds =>
            rw [e1] at q
            intro vs H3 G3 x3 r3
            refine q (v :: vs) H3 G3 (x1.trans x3) ?_
            rw [flE]
            exact .cons (Rep.mono x3.stl r1) (fun b => absurd (of_decide_eq_true b) h2k) (r3.back x1.all)
          | exc c z => rw [e1] at q; exact fun cls dx H' G' y w => q cls dx H' G' (x1.trans y) w
          | bad => rw [e1] at q; exact q
/-- return (..), its new lists told -/
theorem s_retF {es : Es} {xs : List Expr} {k : Nat} {p : Pos} (g : Gs X T P n W) (h : okEs T n X.N X.env.scope [] es xs = true) : PS X (.Return (some (.Tuple xs k p)) pos) (tS X W 3 (exS P (.retF (flE T es) es))) := by
  refine PS.imp (ps_ret (pe_tup (snd_AF es X W xs g.toGd h))) fun D σ H ⟨He, Ge, G, ρ, s, q⟩ => ?_
  simp only [exS] at q
  refine ⟨He, G, ρ, s.er, ?_⟩
  cases qe : evs P es ρ with
  | exc c z => rw [qe] at q; exact fun cls dx H' G' x r => q cls dx σ H' G' (s.ext.trans x) r
  | bad => rw [qe] at q; exact q
  | ok ds =>
    rw [qe] at q
    simp only [out_ok] at q
    intro vs H1 G1 x1 r1
    split at q
    · rename_i hz
      obtain ⟨hz1, hz2⟩ := hz
      have s1 := s.on x1
      have rr := r1.reps
      refine ⟨by rw [rr.length]; exact le_line hz1, fun t nt => ?_⟩
      have x2 : Ext H1 G1 (upd H1 t (.tup vs)) (upd G1 t (.tup vs)) := Ext.made s1.er.sub nt _
      refine q _ _ _ (s.ext.trans (x1.trans x2)) ⟨.tup (SqT.of upd_same) (rr.mono x2.stl), fun ds' e => ?_⟩
      cases e
      refine ⟨t, vs, rfl, SqT.of upd_same, rr.mono x2.stl, fun i u e h1 h2 => ?_⟩
      cases hf : (flE T es)[i]? with
      | none => 
        exact fun es' he => by
          have := freshT_none hz2 i e h2 hf
          rw [he] at this
          cases this
      | some b =>
        cases b with
        | true => exact ((r1.at_ i u e h1 h2 hf).mono x2.stl).back s.ext.all
        | false =>
          exact fun es' he => by
            have := freshT_false hz2 i e h2 hf
            rw [he] at this
            cases this
    · exact q.elim
theorem tK_mono {k : Nat} {e : E} {σ : L2.St} {H : Hp} {Q Q' : VK} (q : tK X P W k e σ H Q) (h : ∀ v H1, Q v H1 → Q' v H1) : tK X P W k e σ H Q' := by
  obtain ⟨B, G, ρ, er, q⟩ := q
  refine ⟨B, G, ρ, er, ?_⟩
  cases qe : ev P e ρ with
  | ok d => rw [qe] at q; exact fun v H' G' x r => h _ _ (q v H' G' x r)
  | exc c z => rw [qe] at q; exact q
  | bad => rw [qe] at q; exact q
/-- .., behind them x -/
def EndAL (X : Cx) (W : WX) (a : Addr) (σ : L2.St) (H G : Hp) (Q : List V → Hp → Prop) : Res (List Dat) → Prop
  | .ok ds => ∀ vs H' G', Ext H G H' G' → Reps X.K G' vs ds → Q (vs ++ [.ref a]) H'
  | .exc c x => ∀ cls dx H' G', Ext H G H' G' → XR X.K X.mg H' G' cls dx c x → W cls dx σ H'
  | .bad => False
def tAL (X : Cx) (P : Pg) (W : WX) (i : Nat) (es : Es) : TA := fun σ H Q => ∃ B G ρ a, ER X.K B ρ σ H G ∧ σ[i]? = some (some (.ref a)) ∧ EndAL X W a σ H G Q (evs P es ρ)
theorem snd_AL {i : Nat} {nm : Str} : ∀ (es : Es) (X : Cx) (W : WX) (xs : List Expr), Gd X T P n W → X.N[i]? = some nm → visB X.env.scope nm = true → okN nm = true → okEsL T n X.N X.env.scope nm es xs = true → PA X xs (tAL X P W i es)
  | .nil, X, W, xs, g, h1, h2, h3, h => by
    match xs, h with
    | [], h => simp [okEsL] at h
    | _ :: _ :: _, h => simp [okEsL] at h
    | [e], h =>
      simp only [okEsL] at h
      obtain ⟨np, rfl⟩ := nmE_ok h
      refine PA.imp (pa_cons (pe_var h1 (vis_of h2) (okN_d h3) (okN_c h3)) pa_nil (star_cons rfl)) fun σ H Q ⟨B, G, ρ, a, er, k1, q⟩ => ?_
      simp only [evs] at q
      exact ⟨_, k1, q [] H G (Ext.refl er.sub) .nil⟩
  | .cons e r, X, W, xs, g, h1, h2, h3, h => by
    cases xs with
    | nil => simp [okEsL] at h
    | cons x xs =>
      simp only [okEsL, Bool.and_eq_true, bne_iff_ne] at h
      obtain ⟨⟨⟨k1, k2⟩, k3⟩, k4⟩ := h
      have A := (snd_E (P := P) e X W _ g k2).pe
      have R := snd_AL r X W _ g h1 h2 h3 k4
      refine PA.imp (pa_cons (stillE k3 A) R (star_cons k1)) fun σ H Q ⟨B, G, ρ, a, er, ka, q⟩ => ?_
      simp only [evs] at q
      refine ⟨B, G, ρ, er, ?_⟩
      cases qe : ev P e ρ with
      | exc c z => rw [qe] at q; exact q
      | bad => rw [qe] at q; exact q
      | ok d =>
        rw [qe] at q
        intro v H1 G1 x1 r1
        refine ⟨B, G1, ρ, a, er.ext x1, ka, ?_⟩
        cases e1 : evs P r ρ with
        | ok ds =>
          rw [e1] at q
          intro vs H3 G3 x3 r3
          exact q (v :: vs) H3 G3 (x1.trans x3) (.cons (Rep.mono x3.stl r1) r3)
        | exc c z => rw [e1] at q; exact fun cls dx H' G' y w => q cls dx H' G' (x1.trans y) w
        | bad => rw [e1] at q; exact q
theorem freshT_nil_at : ∀ {ds : List Dat}, freshT [] ds = true → ∀ (i : Nat) (e : Dat), ds[i]? = some e → isLst e = false := fun h i e h1 => freshT_none h i e h1 (by simp)
/-- return (.., x), x a list of one's own -/
theorem s_retL {es : Es} {xs : List Expr} {k i : Nat} {nm : Str} {p : Pos} (g : Gs X T P n W) (hi : X.N[i]? = some nm) (hv : visB X.env.scope nm = true) (ho : okN nm = true) (h : okEsL T n X.N X.env.scope nm es xs = true) : PS X (.Return (some (.Tuple xs k p)) pos) (tS X W 3 (exS P (.retL es i))) := by
  refine PS.imp (ps_ret (pe_tup (snd_AL es X W xs g.toGd hi hv ho h))) fun D σ H ⟨He, Ge, G, ρ, s, q⟩ => ?_
  simp only [exS] at q
  cases hd : getS ρ i with
  | ow ys =>
    simp only [hd] at q
    have e0 := getS_some hd nofun
    obtain ⟨o, k1, a, us, rfl, k2, ga, rr⟩ := s.er.at_ i _ e0
    refine ⟨He, G, ρ, a, s.er, k1, ?_⟩
    cases qe : evs P es ρ with
    | exc c z => rw [qe] at q; exact fun cls dx H' G' x r => q cls dx σ H' G' (s.ext.trans x) r
    | bad => rw [qe] at q; exact q
    | ok ds =>
      rw [qe] at q
      simp only [out_ok] at q
      intro vs H1 G1 x1 r1
      split at q
      · rename_i hz
        obtain ⟨hz1, hz2⟩ := hz
        obtain ⟨G2, a', us', s2, m1, m2, m3, m4, m5⟩ := (s.on x1).frz e0
        rw [k1] at m1
        cases m1
        have s1 := s.on x1
        refine ⟨by rw [List.length_append, r1.length]; exact le_line hz1, fun t nt => ?_⟩
        have x2 : Ext H1 G2 (upd H1 t (.tup (vs ++ [.ref a]))) (upd G2 t (.tup (vs ++ [.ref a]))) := Ext.made s2.er.sub nt _
        have ra : Rep X.K G2 (.ref a) (.list ys) := .lst (SqL.of m3) m4
        have rA : Reps X.K G2 (vs ++ [.ref a]) (ds ++ [.list ys]) := (r1.mono m5).append (.cons ra .nil)
        refine q _ _ _ (s2.ext.trans x2) ⟨.tup (SqT.of upd_same) (rA.mono x2.stl), fun ds' e => ?_⟩
        cases e
        refine ⟨t, _, rfl, SqT.of upd_same, rA.mono x2.stl, fun j u e h1 h2 => ?_⟩
        have hl := r1.length
        by_cases hj : j < ds.length
        · rw [List.getElem?_append_left hj] at h2
          exact fun es' he => by
            have := freshT_nil_at hz2 j e h2
            rw [he] at this
            cases this
        · rw [List.getElem?_append_right (by omega)] at h1 h2
          by_cases hj2 : j - ds.length = 0
          · rw [hj2] at h2
            rw [hl, hj2] at h1
            cases h1
            cases h2
            intro es' he
            cases he
            exact ⟨a, us', rfl, m2, x2.stl _ _ m3, m4.mono x2.stl⟩
          · obtain ⟨m, hm⟩ : ∃ m, j - ds.length = m + 1 := ⟨j - ds.length - 1, by omega⟩
            rw [hm] at h2
            cases h2
      · exact q.elim
  | un => rw [hd] at q; exact q.elim
  | fz _ => rw [hd] at q; exact q.elim
  | ln _ => rw [hd] at q; exact q.elim
  | ex _ _ _ _ => rw [hd] at q; exact q.elim
/-- x[k].append(..), x[k].clear() -/
def tApp (K : PySem.W.Frag) (i k : Nat) (t : TE) : TS := fun D σ H => ∃ u vs a ws, σ[i]? = some (some (.ref u)) ∧ SqT K H u vs ∧ vs[k]? = some (.ref a) ∧ H a = some (.lst ws) ∧ t σ H fun v H1 => H1 a = some (.lst ws) ∧ ws.length < sizeLine ∧ ∀ ws', D.nx σ (upd H1 a (.lst ws'))
def tClr (K : PySem.W.Frag) (i k : Nat) : TS := fun D σ H => ∃ t vs a ws, σ[i]? = some (some (.ref t)) ∧ SqT K H t vs ∧ vs[k]? = some (.ref a) ∧ H a = some (.lst ws) ∧ ∀ ws', D.nx σ (upd H a (.lst ws'))
def tChg (K : PySem.W.Frag) (i k : Nat) (t : TE) : Option E → TS
  | some _ => tApp K i k t
  | none => tClr K i k
theorem s_chg {i k : Nat} {o : Option E} {nm : Str} {z : Expr} (g : Gs X T P n W) (hi : X.N[i]? = some nm) (hv : visB X.env.scope nm = true) (ho : okN nm = true) (h : chgOk T n X.N X.env.scope (chgE nm k z) o = true) : PS X (.Expr z pos) (tChg X.K i k (tK X P W (kd T (o.getD .non)) (o.getD .non)) o) := by
  cases q : chgE nm k z with
  | none => rw [q] at h; cases o <;> cases h
  | some oa =>
    rw [q] at h
    obtain ⟨t, apos, cpos, h1, h2, h3⟩ := chgE_ok q
    obtain ⟨np, j, p2, sp, rfl⟩ := subK_ok h1
    have hx : PE X (.Subscript (.Name nm np) (.Constant (.int (k : Nat)) j p2) sp) (tOp (rIxT X.K) (tVar i) (tC (.int (k : Nat)))) := pe_ix ix_tup (pe_var hi (vis_of hv) (okN_d ho) (okN_c ho)) pe_int (plain_ix rfl)
    rcases h3 with ⟨a, rfl, hp, rfl⟩ | ⟨rfl, rfl⟩
    · cases o with
      | none => cases h
      | some e =>
        have he := (snd_E (P := P) e X W a g.toGd h).pe
        refine PS.imp (ps_expr (pe_bm PySem.F.plainAttrs_list PySem.F.slot_list_append PySem.F.type_list_append mt_append hx (pa_cons he pa_nil (star_cons hp)) rfl (few_one hp) h2 (star_cons hp) rfl) rfl) fun D σ H ⟨t, vs, a, ws, e1, e2, e3, e4, q⟩ => ?_
        refine ⟨_, e1, t, vs, _, _, rfl, rfl, e2, atI_nat e3, .inl ⟨rfl, ws, SqL.of e4⟩, ?_⟩
        exact tK_mono q fun v H1 m => ⟨a, ws, v, rfl, rfl, m.1, m.2.1, m.2.2 _⟩
    · cases o with
      | some e => cases h
      | none =>
        refine PS.imp (ps_expr (pe_bm0 PySem.F.plainAttrs_list PySem.F.slot_list_clear PySem.F.type_list_clear mt_clear hx rfl h2) rfl) fun D σ H ⟨t, vs, a, ws, e1, e2, e3, e4, q⟩ => ?_
        exact ⟨_, e1, t, vs, _, _, rfl, rfl, e2, atI_nat e3, .inl ⟨rfl, ws, SqL.of e4⟩, a, ws, rfl, rfl, e4, q _⟩
/-- what a lent list is when it is changed -/
theorem lease_at {He Ge H G H1 G1 H2 G2 : Hp} {ρ : En} {σ : L2.St} {i k : Nat} {d : Dat} {v : V} (s : SR X.K He Ge ρ σ H G) (x1 : Ext H G H1 G1) (f1 : FreshC X.K H G1 v d) (x2 : Ext H1 G1 H2 G2) (hk : (leaseK d k && decide (i < ρ.length)) = true) :
    ∃ t vs a ws, (σ.set i (some v))[i]? = some (some (.ref t)) ∧ SqT X.K H2 t vs ∧ vs[k]? = some (.ref a) ∧ H2 a = some (.lst ws) ∧ ws.length < sizeLine ∧ H a = none ∧ G1 a = some (.lst ws) := by
  rw [Bool.and_eq_true] at hk
  obtain ⟨hk, hk2⟩ := hk
  cases d <;> simp only [leaseK] at hk <;> try (cases hk; done)
  rename_i ds
  split at hk
  · rename_i es hes
    obtain ⟨t, vs, rfl, tq, tl, tf⟩ := f1 ds rfl
    have hkl : k < vs.length := by rw [tl.length]; exact (List.getElem?_eq_some_iff.mp hes).1
    obtain ⟨a, ws, hu, na, ga, rws⟩ := tf k _ _ (List.getElem?_eq_getElem hkl) hes es rfl
    have s13 : Same G1 H2 := x2.stl.trans x2.sub
    refine ⟨t, vs, a, ws, ?_, sqT_keep s13 tq, ?_, s13 _ _ ga, lt_line (by rw [rws.length]; exact of_decide_eq_true hk), na, ga⟩
    · exact List.getElem?_set_self (by rw [← s.er.len]; exact of_decide_eq_true hk2)
    · rw [List.getElem?_eq_getElem hkl, hu]
  · cases hk
theorem s_lease {i k : Nat} {o : Option E} {e c1 r c2 : E} {rest : Ss} {st1 st2 st3 : Stmt} {xs : List Stmt} (g : Gs X T P n W) (h : okLease T n X.N X.env.scope fr i e c1 r c2 k o st1 st2 st3 = true) (hr : PSs X xs (tS X W fr (exSs P rest))) :
    PSs X (st1 :: st2 :: st3 :: xs) (tS X W fr (exSs P (.lease i e c1 r c2 k o rest))) := by
  unfold okLease at h
  cases q1 : asg1 st1 with
  | none => rw [q1] at h; cases h
  | some p1 =>
    cases q2 : if1 st2 with
    | none => rw [q1, q2] at h; cases h
    | some p2 =>
      cases q3 : if3 st3 with
      | none => rw [q1, q2, q3] at h; cases h
      | some p3 =>
        rw [q1, q2, q3] at h
        obtain ⟨x, y⟩ := p1
        obtain ⟨z1, b1⟩ := p2
        obtain ⟨z2, u⟩ := p3
        obtain ⟨zp, ap, rfl⟩ := asg1_ok q1
        obtain ⟨ip1, rfl⟩ := if1_ok q2
        simp only [Bool.and_eq_true, decide_eq_true_eq, Bool.not_eq_true', beq_iff_eq] at h
        obtain ⟨⟨⟨⟨⟨⟨⟨⟨⟨⟨⟨⟨h1, h2⟩, h3⟩, h4⟩, h5⟩, h6⟩, h7⟩, h8⟩, h9⟩, h10⟩, rfl⟩, h12⟩, h13⟩ := h
        cases qr : ret1 b1 with
        | none => rw [qr] at h13; cases h13
        | some w =>
          rw [qr] at h13
          obtain ⟨rp, rfl⟩ := ret1_ok qr
          simp only [Bool.and_eq_true, bne_iff_ne] at h13
          obtain ⟨h13, h14⟩ := h13
          have A := s_store (pos := ap) (py := zp) g h1 h2 h5 (snd_E (P := P) e X W y g.toGd h6).pe
          rw [h7] at A
          have C1 := (snd_E (P := P) c1 X W z1 g.toGd h9).pt h8
          have R := pss_one (ps_ret (pos := rp) (stillE h14 (snd_E (P := P) r X W w g.toGd h13).pe))
          have M : ∀ up, PS X (.Expr u up) (tChg X.K i k (tK X P W (kd T (o.getD .non)) (o.getD .non)) o) := fun up => s_chg (P := P) (W := W) (pos := up) g h1 h3 h4 h12
          -- what the change comes to
          have fin : ∀ {D D' : Ends} {He Ge H G H1 G1 H3 G3 : Hp} {ρ : En} {σ : L2.St} {d : Dat} {v : V}, SR X.K He Ge ρ σ H G → Ext H G H1 G1 → FreshC X.K H G1 v d → Ext H1 G1 H3 G3 → SR X.K He Ge (ρ.set i (.fz d)) (σ.set i (some v)) H3 G3 →
              EndS X W 0 He Ge D (if (leaseK d k && decide (i < ρ.length)) = true then Out.of (ev P (o.getD .non) (ρ.set i (.fz d))) fun _ => exSs P rest (ρ.set i .un) else .bad) →
              (∀ σ' H', tS X W 0 (exSs P rest) D σ' H' → D'.nx σ' H') → tChg X.K i k (tK X P W (kd T (o.getD .non)) (o.getD .non)) o D' (σ.set i (some v)) H3 := fun {D D' He Ge H G H1 G1 H3 G3 ρ σ d v} s x1 f1 x3 s3 q hD => by
            have back : ∀ (H4 : Hp), Same H H4 → SR X.K He Ge (ρ.set i .un) (σ.set i (some v)) H4 G := fun H4 sm =>
              (s.on (⟨sm, Same.refl G, s.er.sub.trans sm, fun c q => .inl q⟩ : Ext H G H4 G)).unset i
            split at q
            · rename_i hk
              obtain ⟨t, vs, a, ws, m1, m2, m3, m4, m5, m6, m7⟩ := lease_at s x1 f1 x3 hk
              cases o with
              | none =>
                have e0 : ev P ((none : Option E).getD .non) (ρ.set i (.fz d)) = .ok .none := by simp only [Option.getD, ev]
                rw [e0] at q
                simp only [out_ok] at q
                refine ⟨t, vs, a, ws, m1, m2, m3, m4, fun ws' => hD _ _ ⟨He, Ge, G, _, back _ fun b o e => ?_, q⟩⟩
                rw [upd_ne (ne_of_none e m6)]
                exact x3.all _ _ (x1.all _ _ e)
              | some e' =>
                refine ⟨t, vs, a, ws, m1, m2, m3, m4, ?_⟩
                refine bndS s3 q fun d' v' H4 G4 x4 r4 s4 q4 => ?_
                refine ⟨x4.all _ _ m4, m5, fun ws' => hD _ _ ⟨He, Ge, G, _, back _ fun b o e => ?_, q4⟩⟩
                rw [upd_ne (ne_of_none e m6)]
                exact x4.all _ _ (x3.all _ _ (x1.all _ _ e))
            · exact q.elim
          have back : ∀ {He Ge H G : Hp} {ρ : En} {σ : L2.St} {v : V} (s : SR X.K He Ge ρ σ H G) (H4 : Hp), Same H H4 → SR X.K He Ge (ρ.set i .un) (σ.set i (some v)) H4 G := fun s H4 sm =>
            (s.on (⟨sm, Same.refl _, s.er.sub.trans sm, fun c q => .inl q⟩ : Ext _ _ H4 _)).unset i
          rcases if3_ok q3 with ⟨z, up, ip2, rfl, rfl⟩ | ⟨up, rfl, rfl⟩
          · simp only [condOk, Bool.and_eq_true, Bool.not_eq_true'] at h10
            have C2 := (snd_E (P := P) c2 X W z g.toGd h10.2).pt h10.1
            refine PSs.imp (pss_cons A (pss_cons (ps_if (pos := ip1) C1 R pss_nil) (pss_cons (ps_if (pos := ip2) C2 (pss_one (M up)) pss_nil) hr))) fun D σ H ⟨He, Ge, G, ρ, s, q⟩ => ?_
            simp only [exSs] at q
            refine bndS (j := 3) s q fun d v H1 G1 x1 r1 s1 q1 => ?_
            obtain ⟨r1, f1⟩ := r1
            refine bndST (s1.set r1 i) q1 fun b H2 G2 x2 s2 q2 => ?_
            cases b with
            | true =>
              rw [if_pos rfl]
              simp only at q2
              refine bndS s2 q2 fun d' v' H3 G3 x3 r3 s3 q3 => ?_
              exact q3 v' H3 G3 s3.ext r3
            | false =>
              rw [if_neg Bool.false_ne_true]
              simp only at q2
              refine bndST s2 q2 fun b H3 G3 x3 s3 q3 => ?_
              cases b with
              | false =>
                rw [if_neg Bool.false_ne_true]
                exact ⟨He, Ge, G, _, back s H3 (x1.all.trans (x2.all.trans x3.all)), q3⟩
              | true =>
                rw [if_pos rfl]
                simp only at q3
                exact fin s x1 f1 (x2.trans x3) s3 q3 fun σ' H' z => z
          · have hc : c2 = .bl true := by
              have h10' : tyes c2 = true := h10
              cases c2 <;> simp [tyes] at h10'
              subst h10'
              rfl
            subst hc
            refine PSs.imp (pss_cons A (pss_cons (ps_if (pos := ip1) C1 R pss_nil) (pss_cons (M up) hr))) fun D σ H ⟨He, Ge, G, ρ, s, q⟩ => ?_
            simp only [exSs] at q
            refine bndS (j := 3) s q fun d v H1 G1 x1 r1 s1 q1 => ?_
            obtain ⟨r1, f1⟩ := r1
            refine bndST (s1.set r1 i) q1 fun b H2 G2 x2 s2 q2 => ?_
            cases b with
            | true =>
              rw [if_pos rfl]
              simp only at q2
              refine bndS s2 q2 fun d' v' H3 G3 x3 r3 s3 q3 => ?_
              exact q3 v' H3 G3 s3.ext r3
            | false =>
              rw [if_neg Bool.false_ne_true]
              simp only at q2
              have et : (ev P (.bl true) (ρ.set i (.fz d)) >>= fun t => truD t) = .ok true := by simp only [ev]; rfl
              rw [et] at q2
              simp only [out_ok] at q2
              exact fin s x1 f1 x2 s2 q2 fun σ' H' z => z
/-- what the terms do not tell -/
theorem s_nope {st : Stmt} : PS X st (tS X W fr (exS P .nope)) := ⟨fun pins s σ H D I h => by
  obtain ⟨He, Ge, G, ρ, _, q⟩ := h
  simp only [exS] at q
  exact q.elim⟩
theorem pss_no {X : Cx} {st : List Stmt} : PSs X st (fun _ _ _ => False) := ⟨fun pins s σ H D I h => h.elim⟩
theorem s_tryB {c : Str} {y : Expr} {p np hp tp : Pos} {b0 : Stmt} {s : List Stmt} (g : Gs X T P n W) (hcl : T.cl = false) (hg : glB X.env.scope c = true) (ho : okN c = true) (hm : ∃ C, X.mg c = some (.ref C)) (he : okE T n X.N X.env.scope e y = true) (hk : kd T e ≠ 1) :
    PS X (.Try [.Return (some y) p] [.ExceptHandler (some (.Name c np)) none (b0 :: s) hp] [] [] tp) (tS X W 0 (exS P (.tryB e c))) := by
  obtain ⟨C, hC⟩ := hm
  have hg' : X.env.scope.names.lookup c = some .globalImplicit := of_decide_eq_true hg
  refine PS.imp (ps_try_only (tb := fun W' D σ H => tK X P W' 0 e σ H D.rt) (ts := fun _ _ _ _ _ _ => False) g.stk g.frm ⟨hg', okN_d ho, .inl hC⟩ (tk_low g hcl) (fun W' pn xe tk ps => ?_) fun a oe cls d pn _ _ => pss_no) fun D σ H ⟨He, Ge, G, ρ, s, q⟩ => ?_
  · exact PSs.imp (pss_one (ps_ret (stillE hk (snd_E e (X.tr pn xe) W' y (g.tr0 hcl tk ps).toGd he).pe))) fun D σ H q => q
  · simp only [exS] at q
    refine ⟨He, G, ρ, s.er, ?_⟩
    cases qe : ev P e ρ with
    | ok d =>
      rw [qe] at q
      exact fun x H1 G1 x1 r1 => q x H1 G1 (s.ext.trans x1) r1
    | exc c' z => rw [qe] at q; exact q.elim
    | bad => rw [qe] at q; exact q.elim
/-- statements without statements in them -/
def leaf : S → Bool
  | .ifs _ _ _ => false
  | .for_ _ _ _ _ => false
  | .whil _ _ _ _ => false
  | _ => true
theorem snd_S0 : ∀ (s : S) (st : Stmt), leaf s = true → Gs X T P n W → okS T n X.N X.env.scope fr s st = true → PS X st (tS X W fr (exS P s))
  | .set i e, st, _, g, h => by
    cases st with
    | Assign ts y pos =>
      cases ts with
      | nil => simp [okS] at h
      | cons t r =>
        cases r with
        | cons _ _ => cases t <;> exact absurd (show false = true from h) (by decide)
        | nil =>
          cases t with
          | Name nm py =>
            simp only [okS, Bool.and_eq_true, decide_eq_true_eq, bne_iff_ne] at h
            obtain ⟨⟨⟨⟨h1, h2⟩, h3⟩, h4⟩, h5⟩ := h
            exact PS.imp (s_asg g h1 h2 h3 h4) fun D σ H q => tAsg_mono (fun _ _ _ => tK_still h5) D σ H (c_set D σ H q)
          | _ => simp [okS] at h
    | _ => simp [okS] at h
  | .setO i e, st, _, g, h => by
    cases st with
    | Assign ts y pos =>
      cases ts with
      | nil => simp [okS] at h
      | cons t r =>
        cases r with
        | cons _ _ => cases t <;> exact absurd (show false = true from h) (by decide)
        | nil =>
          cases t with
          | Name nm py =>
            simp only [okS, Bool.and_eq_true, decide_eq_true_eq, beq_iff_eq] at h
            obtain ⟨⟨⟨⟨h1, h2⟩, h3⟩, h4⟩, h5⟩ := h
            have z := s_asg (P := P) (W := W) (pos := pos) g h1 h2 h3 h4
            rw [h5] at z
            exact PS.imp z c_setO
          | _ => simp [okS] at h
    | _ => simp [okS] at h
  | .tup is e, st, _, g, h => by
    cases st with
    | Assign ts y pos =>
      cases ts with
      | nil => simp [okS] at h
      | cons t r =>
        cases r with
        | cons _ _ => exact absurd (show false = true from h) (by decide)
        | nil =>
          simp only [okS, Bool.and_eq_true, bne_iff_ne, Bool.not_eq_true'] at h
          obtain ⟨⟨⟨⟨h1, h2⟩, h3⟩, h4⟩, h5⟩ := h
          exact s_tupA g h1 h2 h3 h5 (snd_E e X W y g.toGd h4).pe
    | _ => simp [okS] at h
  | .app i e, st, _, g, h => by
    cases st with
    | Expr y pos =>
      cases y with
      | Call f xs kws cpos =>
        cases f with
        | Attribute o f apos =>
          cases o with
          | Name nm np =>
            cases xs with
            | nil => simp [okS] at h
            | cons y r =>
              cases r with
              | cons _ _ => simp [okS] at h
              | nil =>
                cases kws with
                | cons _ _ => simp [okS] at h
                | nil =>
                  simp only [okS, Bool.and_eq_true, decide_eq_true_eq, bne_iff_ne] at h
                  obtain ⟨⟨⟨⟨⟨⟨⟨h1, h2⟩, h3⟩, rfl⟩, h5⟩, h6⟩, h7⟩, h8⟩ := h
                  exact s_app g h1 h2 h3 h5 h6 h8 (snd_E e X W y g.toGd h7).pe
          | _ => simp [okS] at h
        | _ => simp [okS] at h
      | _ => simp [okS] at h
    | _ => simp [okS] at h
  | .rev i, st, _, g, h => by
    cases st with
    | Expr y pos =>
      cases y with
      | Call f xs kws cpos =>
        cases f with
        | Attribute o f apos =>
          cases o with
          | Name nm np =>
            cases xs with
            | cons _ _ => simp [okS] at h
            | nil =>
              cases kws with
              | cons _ _ => simp [okS] at h
              | nil =>
                simp only [okS, Bool.and_eq_true, decide_eq_true_eq] at h
                obtain ⟨⟨⟨⟨h1, h2⟩, h3⟩, rfl⟩, h5⟩ := h
                exact s_rev g h1 h2 h3 h5
          | _ => simp [okS] at h
        | _ => simp [okS] at h
      | _ => simp [okS] at h
    | _ => simp [okS] at h
  | .ext i e, st, _, g, h => by
    cases st with
    | Expr y pos =>
      cases y with
      | Call f xs kws cpos =>
        cases f with
        | Attribute o f apos =>
          cases o with
          | Name nm np =>
            cases xs with
            | nil => simp [okS] at h
            | cons y r =>
              cases r with
              | cons _ _ => simp [okS] at h
              | nil =>
                cases kws with
                | cons _ _ => simp [okS] at h
                | nil =>
                  simp only [okS, Bool.and_eq_true, decide_eq_true_eq] at h
                  obtain ⟨⟨⟨⟨⟨⟨⟨h1, h2⟩, h3⟩, rfl⟩, h5⟩, h6⟩, h7⟩, h8⟩ := h
                  have z := (snd_E (P := P) e X W y g.toGd h7).pe
                  rw [eq_of_beq h8] at z
                  exact s_ext g h1 h2 h3 h5 h6 z
          | _ => simp [okS] at h
        | _ => simp [okS] at h
      | _ => simp [okS] at h
    | _ => simp [okS] at h
  | .ret e, st, _, g, h => by
    cases st with
    | Return y pos =>
      cases y with
      | none => simp [okS] at h
      | some y =>
        simp only [okS, Bool.and_eq_true, Bool.or_eq_true, beq_iff_eq, bne_iff_ne] at h
        obtain ⟨⟨hf, h2⟩, h3⟩ := h
        refine PS.imp (ps_ret (stillE h3 (snd_E e X W y g.toGd h2).pe)) fun D σ H ⟨He, Ge, G, ρ, s, h⟩ => ?_
        simp only [exS] at h
        rcases hf with hf | ⟨hf, hn⟩
        · refine bndS s h fun d v H1 G1 x1 r1 s1 q1 => ?_
          refine q1 v H1 G1 s1.ext ?_
          rw [hf]
          exact r1
        · cases e <;> try (cases hn; done)
          simp only [ev, out_ok] at h
          refine ⟨He, G, ρ, s.er, ?_⟩
          simp only [ev]
          intro v H' G' x r
          refine h v H' G' (s.ext.trans x) ?_
          rw [hf]
          exact ⟨r, fun ds e => by cases e⟩
    | _ => simp [okS] at h
  | .retO e, st, _, g, h => by
    cases st with
    | Return y pos =>
      cases y with
      | none => simp [okS] at h
      | some y =>
        simp only [okS, Bool.and_eq_true, beq_iff_eq] at h
        obtain ⟨⟨hf, h2⟩, h3⟩ := h
        have z := (snd_E (P := P) e X W y g.toGd h2).pe
        rw [h3] at z
        refine PS.imp (ps_ret z) fun D σ H ⟨He, Ge, G, ρ, s, h⟩ => ?_
        simp only [exS] at h
        refine bndS s h fun d v H1 G1 x1 r1 s1 q1 => ?_
        refine q1 v H1 G1 s1.ext ?_
        rw [hf]
        exact RK.on (k := 2) s.ext.all r1
    | _ => simp [okS] at h
  | .retV i, st, _, g, h => by
    cases st with
    | Return y pos =>
      cases y with
      | none => simp [okS] at h
      | some y =>
        cases y with
        | Name nm np =>
          simp only [okS, Bool.and_eq_true, decide_eq_true_eq, beq_iff_eq] at h
          obtain ⟨⟨⟨hf, h1⟩, h2⟩, h3⟩ := h
          refine PS.imp (ps_ret (pe_var h1 (vis_of h2) (okN_d h3) (okN_c h3))) fun D σ H ⟨He, Ge, G, ρ, s, h⟩ => ?_
          simp only [exS] at h
          cases hd : getS ρ i with
          | ow ds =>
            rw [hd] at h
            have e0 := getS_some hd nofun
            obtain ⟨o, k1, a, vs, rfl, k2, ga, rr⟩ := s.er.at_ i _ e0
            refine ⟨_, k1, h _ H G s.ext ?_⟩
            rw [hf]
            exact ⟨a, vs, ds, rfl, rfl, s.own i ds a e0 k1, ga, k2, rr⟩
          | un => rw [hd] at h; exact h.elim
          | fz _ => rw [hd] at h; exact h.elim
          | ln _ => rw [hd] at h; exact h.elim
          | ex _ _ _ _ => rw [hd] at h; exact h.elim
        | _ => simp [okS] at h
    | _ => simp [okS] at h
  | .retF fl es, st, _, g, h => by
    cases st with
    | Return y pos =>
      cases y with
      | none => simp [okS] at h
      | some y =>
        cases y with
        | Tuple xs k p =>
          simp only [okS, Bool.and_eq_true, beq_iff_eq, decide_eq_true_eq] at h
          obtain ⟨⟨rfl, rfl⟩, h2⟩ := h
          exact s_retF g h2
        | _ => simp [okS] at h
    | _ => simp [okS] at h
  | .retL es i, st, _, g, h => by
    cases st with
    | Return y pos =>
      cases y with
      | none => simp [okS] at h
      | some y =>
        cases y with
        | Tuple xs k p =>
          simp only [okS, Bool.and_eq_true, beq_iff_eq] at h
          obtain ⟨rfl, h⟩ := h
          cases hn : X.N[i]? with
          | none => rw [hn] at h; cases h
          | some x =>
            rw [hn] at h
            simp only [Bool.and_eq_true] at h
            exact s_retL g hn h.1.1 h.1.2 h.2
        | _ => simp [okS] at h
    | _ => simp [okS] at h
  | .retC e, st, _, g, h => by
    cases st with
    | Return y pos =>
      cases y with
      | none => simp [okS] at h
      | some y =>
        simp only [okS, Bool.and_eq_true, beq_iff_eq] at h
        obtain ⟨⟨rfl, h2⟩, h3⟩ := h
        have z := (snd_E (P := P) e X W y g.toGd h2).pe
        rw [h3] at z
        refine PS.imp (ps_ret z) fun D σ H ⟨He, Ge, G, ρ, s, h⟩ => ?_
        simp only [exS] at h
        refine bndS s h fun d v H1 G1 x1 r1 s1 q1 => ?_
        exact q1 v H1 G1 s1.ext (RK.on (k := 3) s.ext.all r1)
    | _ => simp [okS] at h
  | .retN, st, _, g, h => by
    cases st with
    | Return y pos =>
      cases y with
      | none =>
        simp only [okS, beq_iff_eq] at h
        refine PS.imp ps_retN fun D σ H ⟨He, Ge, G, ρ, s, q⟩ => ?_
        simp only [exS] at q
        refine q .non H G s.ext ?_
        rw [h]
        exact Rep.non
      | some y => cases y <;> simp [okS] at h
    | _ => simp [okS] at h
  | .expr e, st, _, g, h => by
    cases st with
    | Expr y pos =>
      simp only [okS, Bool.and_eq_true, Bool.not_eq_true'] at h
      refine PS.imp (ps_expr (snd_E e X W y g.toGd h.2).pe (swaps_plain h.1)) fun D σ H ⟨He, Ge, G, ρ, s, h⟩ => ?_
      simp only [exS] at h
      refine bndS s h fun d v H1 G1 x1 r1 s1 q1 => ?_
      exact q1 σ H1 G1 s1
    | _ => simp [okS] at h
  | .pass, st, _, g, h => by
    have fin : ∀ D σ H, tS X W fr (exS P .pass) D σ H → tNext D σ H := fun D σ H ⟨He, Ge, G, ρ, s, q⟩ => by
      simp only [exS] at q
      exact q σ H G s
    cases st with
    | Pass pos => exact PS.imp ps_pass fin
    | Expr y pos =>
      cases y with
      | Constant c k p =>
        cases c with
        | str z => exact PS.imp ps_doc fin
        | _ => simp [okS] at h
      | _ => simp [okS] at h
    | _ => simp [okS] at h
  | .cont, st, _, g, h => by
    cases st with
    | Continue pos =>
      exact PS.imp ps_continue fun D σ H ⟨He, Ge, G, ρ, s, q⟩ => by
        simp only [exS] at q
        exact q σ H G s
    | _ => simp [okS] at h
  | .nope, st, _, g, h => s_nope
  | .tryB e c, st, _, g, h => by
    simp only [okS] at h
    cases qt : tryB1 c st with
    | none => rw [qt] at h; cases h
    | some y =>
      rw [qt] at h
      obtain ⟨p, np, b0, s, hp, tp, rfl⟩ := tryB1_ok qt
      simp only [Bool.and_eq_true, bne_iff_ne, beq_iff_eq, Bool.not_eq_true'] at h
      obtain ⟨⟨⟨⟨⟨⟨rfl, h1⟩, h2⟩, h3⟩, hcl⟩, h4⟩, h5⟩ := h
      have hC : ∃ C, X.mg c = some (.ref C) := by
        obtain ⟨C, h, _⟩ := g.exs _ (List.contains_iff_mem.mp h3)
        exact ⟨C, h⟩
      exact s_tryB g hcl h1 h2 hC h4 h5
  | .raisX c e, st, _, g, h => by
    simp only [okS] at h
    cases qr : rais2 st with
    | none => rw [qr] at h; cases h
    | some p =>
      obtain ⟨c', y⟩ := p
      rw [qr] at h
      obtain ⟨np, cp, pos, rfl⟩ := rais2_ok qr
      simp only [Bool.and_eq_true, decide_eq_true_eq, Bool.not_eq_true', bne_iff_ne] at h
      obtain ⟨⟨⟨⟨⟨⟨⟨⟨rfl, h1⟩, h2⟩, h3⟩, h4⟩, h5⟩, h6⟩, h7⟩, h8⟩ := h
      exact s_raisX g h1 h2 h3 h4 h5 h6 h8 (snd_E e X W y g.toGd h7).pe
  | .tryX e c d i, st, _, g, h => by simp [okS] at h
  | .tryR e c i j ns, st, _, g, h => s_tryR g h
  | .rais c, st, _, g, h => by
    simp only [okS, Bool.and_eq_true] at h
    obtain ⟨⟨⟨h1, h2⟩, h3⟩, h4⟩ := h
    obtain ⟨np, m, k, p2, cp, pos, rfl⟩ := rais1_ok h1
    exact s_rais g h2 h3 h4
  | .tryI e c i j n1 n2, st, _, g, h => by
    simp only [okS] at h
    cases qt : tryA c st with
    | none => rw [qt] at h; cases h
    | some p =>
      obtain ⟨b, x, s⟩ := p
      rw [qt] at h
      obtain ⟨np, hp, tp, rfl⟩ := tryA_ok qt
      simp only at h
      cases qb : expr1 b with
      | none => rw [qb] at h; cases h
      | some y =>
        cases qs : two1 s with
        | none => rw [qb, qs] at h; cases h
        | some v =>
          obtain ⟨z, xs, ys⟩ := v
          rw [qb, qs] at h
          obtain ⟨yp, rfl⟩ := expr1_ok qb
          obtain ⟨zp, k1, p1, a1, zp', zq, k2, p2, p3, a2, rfl⟩ := two1_ok qs
          simp only [Bool.and_eq_true, decide_eq_true_eq, Bool.not_eq_true'] at h
          obtain ⟨⟨⟨⟨⟨⟨⟨⟨⟨⟨⟨⟨⟨⟨⟨⟨h1, h2⟩, h3⟩, hcl⟩, h4⟩, h5⟩, h6⟩, h7⟩, h8⟩, h9⟩, h10⟩, h11⟩, h12⟩, h13⟩, h14⟩, h15⟩, h16⟩ := h
          have hC : ∃ C, X.mg c = some (.ref C) := by
            obtain ⟨C, h, _⟩ := g.exs _ (List.contains_iff_mem.mp h3)
            exact ⟨C, h⟩
          exact s_tryI g hcl h1 h2 hC h4 h5 h6 h7 h8 h9 h10 h11 h12 h13 h14 h15 h16
  | .tryE i e c j hd, st, _, g, h => by
    simp only [okS] at h
    cases qt : try1 c st with
    | none => rw [qt] at h; cases h
    | some p =>
      obtain ⟨b, z, w⟩ := p
      rw [qt] at h
      obtain ⟨np, zp, ap, hp, tp, rfl⟩ := try1_ok qt
      simp only [Bool.and_eq_true, decide_eq_true_eq, Bool.not_eq_true'] at h
      obtain ⟨⟨⟨⟨⟨⟨⟨h2, h3⟩, h6⟩, h7⟩, h8⟩, h9⟩, hcl⟩, hb⟩ := h
      have hC : ∃ C, X.mg c = some (.ref C) := by
        obtain ⟨C, h, _⟩ := g.exs _ (List.contains_iff_mem.mp h9)
        exact ⟨C, h⟩
      cases i with
      | none =>
        simp only at hb
        cases qb : expr1 b with
        | none => rw [qb] at hb; cases hb
        | some y =>
          rw [qb] at hb
          obtain ⟨p, rfl⟩ := expr1_ok qb
          simp only [Bool.and_eq_true, Bool.not_eq_true'] at hb
          refine s_tryE (k := kd T e) (Qk := fun v σ H1 D => D.nx σ H1) g hcl h2 h3 h6 h7 h8 hC (fun W' pn xe g' => ?_) fun D σ He Ge H1 G1 ρ H x d r s q => q σ H1 G1 s
          exact PSs.imp (pss_one (ps_expr (snd_E e (X.tr pn xe) W' y g'.toGd hb.2).pe (swaps_plain hb.1))) fun D σ H q => q
      | some i =>
        simp only at hb
        cases qb : asgL b with
        | none => rw [qb] at hb; cases hb
        | some uy =>
          obtain ⟨u, y⟩ := uy
          rw [qb] at hb
          obtain ⟨up, p, rfl⟩ := asgL_ok qb
          simp only [Bool.and_eq_true, Bool.not_eq_true', bne_iff_ne, decide_eq_true_eq] at hb
          obtain ⟨⟨⟨⟨h4, h5⟩, h51⟩, h52⟩, h53⟩ := hb
          refine s_tryE (k := 0) (Qk := fun v σ H1 D => D.nx (σ.set i (some v)) H1) g hcl h2 h3 h6 h7 h8 hC (fun W' pn xe g' => ?_) fun D σ He Ge H1 G1 ρ H x d r s q => q _ H1 G1 (s.set r i)
          exact PSs.imp (pss_one (ps_set g'.nd h52 (loc_sto h53) (stillE h51 (snd_E e (X.tr pn xe) W' y g'.toGd h5).pe) (swaps_plain h4) (.inl (g'.fnT u)))) fun D σ H q => q
  | .ifs _ _ _, _, hl, _, _ => by cases hl
  | .for_ _ _ _ _, _, hl, _, _ => by cases hl
  | .whil _ _ _ _, _, hl, _, _ => by cases hl
mutual
theorem snd_S : ∀ (s : S) (st : Stmt), Gs X T P n W → okS T n X.N X.env.scope fr s st = true → PS X st (tS X W fr (exS P s))
  | .ifs c a b, st, g, h => by
    cases st with
    | If x p q pos =>
      simp only [okS, Bool.and_eq_true, Bool.not_eq_true'] at h
      obtain ⟨⟨⟨h1, h2⟩, h3⟩, h4⟩ := h
      refine PS.imp (ps_if ((snd_E c X W x g.toGd h2).pt h1) (snd_Ss a p g h3) (snd_Ss b q g h4)) fun D σ H ⟨He, Ge, G, ρ, s, h⟩ => ?_
      simp only [exS] at h
      refine bndST s h fun r H1 G1 x1 s1 q1 => ?_
      cases r with
      | true => rw [if_pos rfl]; exact ⟨He, Ge, G1, ρ, s1, q1⟩
      | false => rw [if_neg Bool.false_ne_true]; exact ⟨He, Ge, G1, ρ, s1, q1⟩
    | _ => simp [okS] at h
  | .for_ tmp tg it body, st, g, h => by
    cases st with
    | For t x b els pos =>
      cases els with
      | nil =>
        simp only [okS, Bool.and_eq_true] at h
        obtain ⟨⟨⟨⟨h0, h1⟩, h2⟩, h3⟩, h4⟩ := h
        rw [Bool.not_eq_true'] at h0
        exact s_for g h0 h1 h2 (snd_I it X W t x g.toGd h3) (snd_Ss body b g h4)
      | cons _ _ => simp [okS] at h
    | _ => simp [okS] at h
  | .whil fuel tmp c body, st, g, h => by
    cases st with
    | While x b els pos =>
      cases els with
      | nil =>
        simp only [okS, Bool.and_eq_true, Bool.not_eq_true'] at h
        obtain ⟨⟨h1, h2⟩, h3⟩ := h
        exact s_whil g ((snd_E c X W x g.toGd h2).pt h1) (snd_Ss body b g h3)
      | cons _ _ => simp [okS] at h
    | _ => simp [okS] at h
  | .set i e, st, g, h => snd_S0 (.set i e) st rfl g h
  | .setO i e, st, g, h => snd_S0 (.setO i e) st rfl g h
  | .tup i e, st, g, h => snd_S0 (.tup i e) st rfl g h
  | .app i e, st, g, h => snd_S0 (.app i e) st rfl g h
  | .rev i, st, g, h => snd_S0 (.rev i) st rfl g h
  | .ext i e, st, g, h => snd_S0 (.ext i e) st rfl g h
  | .ret e, st, g, h => snd_S0 (.ret e) st rfl g h
  | .retO e, st, g, h => snd_S0 (.retO e) st rfl g h
  | .retV i, st, g, h => snd_S0 (.retV i) st rfl g h
  | .retN, st, g, h => snd_S0 (.retN) st rfl g h
  | .expr e, st, g, h => snd_S0 (.expr e) st rfl g h
  | .pass, st, g, h => snd_S0 (.pass) st rfl g h
  | .cont, st, g, h => snd_S0 (.cont) st rfl g h
  | .tryI e c i j n1 n2, st, g, h => snd_S0 (.tryI e c i j n1 n2) st rfl g h
  | .retF fl es, st, g, h => snd_S0 (.retF fl es) st rfl g h
  | .retL es i, st, g, h => snd_S0 (.retL es i) st rfl g h
  | .retC e, st, g, h => snd_S0 (.retC e) st rfl g h
  | .rais c, st, g, h => snd_S0 (.rais c) st rfl g h
  | .nope, st, g, h => snd_S0 .nope st rfl g h
  | .raisX c e, st, g, h => snd_S0 (.raisX c e) st rfl g h
  | .tryX e c d i, st, g, h => snd_S0 (.tryX e c d i) st rfl g h
  | .tryR e c i j ns, st, g, h => snd_S0 (.tryR e c i j ns) st rfl g h
  | .tryB e c, st, g, h => snd_S0 (.tryB e c) st rfl g h
  | .tryE i e c j hd, st, g, h => snd_S0 (.tryE i e c j hd) st rfl g h
theorem snd_Ss : ∀ (s : Ss) (st : List Stmt), Gs X T P n W → okSs T n X.N X.env.scope fr s st = true → PSs X st (tS X W fr (exSs P s))
  | .nil, st, g, h => by
    cases st with
    | nil =>
      exact PSs.imp pss_nil fun D σ H ⟨He, Ge, G, ρ, s, q⟩ => by
        simp only [exSs] at q
        exact q σ H G s
    | cons _ _ => simp [okSs] at h
  | .cons s r, st, g, h => by
    cases st with
    | nil => simp [okSs] at h
    | cons x xs =>
      simp only [okSs, Bool.and_eq_true] at h
      refine PSs.imp (pss_cons (snd_S s x g h.1) (snd_Ss r xs g h.2)) fun D σ H ⟨He, Ge, G, ρ, z, q⟩ => ?_
      simp only [exSs] at q
      refine ⟨He, Ge, G, ρ, z, ?_⟩
      cases qo : exS P s ρ with
      | nx ρ5 => rw [qo] at q; exact fun σ6 H6 G6 s6 => ⟨He, Ge, G6, ρ5, s6, q⟩
      | ct ρ5 => rw [qo] at q; exact q
      | ret d => rw [qo] at q; exact q
      | exc c z => rw [qo] at q; exact q
      | bad => rw [qo] at q; exact q
  | .frz i r, st, g, h => by
    simp only [okSs] at h
    refine PSs.imp (snd_Ss r st g h) fun D σ H ⟨He, Ge, G, ρ, z, q⟩ => ?_
    simp only [exSs] at q
    cases hd : getS ρ i with
    | ow ds =>
      rw [hd] at q
      obtain ⟨G1, _, _, s1, _⟩ := z.frz (getS_some hd nofun)
      exact ⟨He, Ge, G1, _, s1, q⟩
    | un => rw [hd] at q; exact q.elim
    | fz _ => rw [hd] at q; exact q.elim
    | ln _ => rw [hd] at q; exact q.elim
    | ex _ _ _ _ => rw [hd] at q; exact q.elim
  | .lease i e c1 r c2 k o rest, st, g, h => by
    cases st with
    | nil => simp [okSs] at h
    | cons x1 st =>
      cases st with
      | nil => simp [okSs] at h
      | cons x2 st =>
        cases st with
        | nil => simp [okSs] at h
        | cons x3 xs =>
          simp only [okSs, Bool.and_eq_true] at h
          exact s_lease g h.1 (snd_Ss rest xs g h.2)
end
end
end NW
end

section
set_option maxHeartbeats 8000000
/-! A def as a whole keeps the promise that its terms give. -/
namespace NW
open PySem PySem.Spec PyProof.Rows L2
theorem ins_len : ∀ (ws : List Bool) (ds : List Dat), (ins ws ds).length = ds.length
  | [], [] => rfl
  | true :: _, [] => rfl
  | false :: _, [] => rfl
  | [], d :: ds => by simp [ins, ins_len [] ds]
  | false :: ws, d :: ds => by simp [ins, ins_len ws ds]
  | true :: ws, d :: ds => by cases d <;> simp [ins, ins_len ws ds]
theorem ins_own : ∀ (ws : List Bool) (ds : List Dat) (i : Nat) (es : List Dat), (ins ws ds)[i]? ≠ some (.ow es)
  | [], [], i, es => by simp [ins]
  | true :: _, [], i, es => by simp [ins]
  | false :: _, [], i, es => by simp [ins]
  | [], d :: ds, i, es => by
    cases i with
    | zero => simp [ins]
    | succ i => simpa [ins] using ins_own [] ds i es
  | false :: ws, d :: ds, i, es => by
    cases i with
    | zero => simp [ins]
    | succ i => simpa [ins] using ins_own ws ds i es
  | true :: ws, d :: ds, i, es => by
    cases d <;> cases i with
    | zero => simp [ins]
    | succ i => simpa [ins] using ins_own ws ds i es
theorem RW.still_ {K : PySem.W.Frag} {H G : Hp} {v : V} {d : Dat} (r : RW K H G v d) (h : ∀ ds, d ≠ .list ds) : Rep K G v d := by
  cases r with
  | st r => exact r
  | wk _ _ => exact absurd rfl (h _)
theorem RW.list_ {K : PySem.W.Frag} {H G : Hp} (g : Same G H) {v : V} {ds : List Dat} (r : RW K H G v (.list ds)) : ∃ a vs, v = .ref a ∧ SqL K H a vs ∧ Reps K G vs ds := by
  cases r with
  | st r =>
    cases r with
    | lst q rr => exact ⟨_, _, rfl, sqL_keep g q, rr⟩
  | wk q rr => exact ⟨_, _, rfl, q, rr⟩
theorem ins_at {K : PySem.W.Frag} {H G : Hp} (g : Same G H) : ∀ (ws : List Bool) (vs : List V) (ds : List Dat), RAs K H G ws vs ds → ∀ (i : Nat) (s : Sl), (ins ws ds)[i]? = some s → ∃ v, vs[i]? = some v ∧ SlR K H H G s (some v)
  | ws, [], ds, r, i, s, e => by
    cases r with
    | nil => cases ws with
      | nil => simp [ins] at e
      | cons b ws => cases b <;> simp [ins] at e
  | ws, v :: vs, _, .cons (d := d) (ds := ds) r t, i, s, e => by
    match ws, r, t, e with
    | [], r, t, e =>
      cases i with
      | zero => simp [ins] at e; subst e; exact ⟨v, rfl, v, rfl, r⟩
      | succ i => simp [ins] at e; exact ins_at g [] vs ds t i s e
    | false :: ws, r, t, e =>
      cases i with
      | zero => simp [ins] at e; subst e; exact ⟨v, rfl, v, rfl, r⟩
      | succ i => simp [ins] at e; exact ins_at g ws vs ds t i s e
    | true :: ws, r, t, e =>
      have r' : RW K H G v d := r
      cases d with
      | list xs =>
        cases i with
        | zero =>
          simp [ins] at e; subst e
          obtain ⟨a, us, rfl, q, rr⟩ := r'.list_ g
          exact ⟨_, rfl, a, us, rfl, q, rr⟩
        | succ i => simp [ins] at e; exact ins_at g ws vs ds t i s e
      | _ =>
        cases i with
        | zero => simp [ins] at e; subst e; exact ⟨v, rfl, v, rfl, r'.still_ nofun⟩
        | succ i => simp [ins] at e; exact ins_at g ws vs ds t i s e
theorem RAs.len {K : PySem.W.Frag} {H G : Hp} {ws : List Bool} {vs : List V} {ds : List Dat} (r : RAs K H G ws vs ds) : vs.length = ds.length := by
  induction r with
  | nil => rfl
  | cons _ _ ih => simp [ih]
/-- the state at the entry -/
theorem SR.start {K : PySem.W.Frag} {H G : Hp} {ws : List Bool} {vs : List V} {ds : List Dat} {N : List Str} (g : Same G H) (r : RAs K H G ws vs ds) (hn : vs.length ≤ N.length) :
    SR K H G (ins ws ds ++ List.replicate (N.length - ds.length) .un) (L2.start N vs) H G := by
  have hl := r.len
  have il := ins_len ws ds
  refine ⟨Ext.refl g, ⟨Same.refl H, g, by simp [L2.start, il, hl], fun i s e => ?_⟩, fun i es a e1 e2 => ?_, fun i j es fs a hij e1 e2 e3 e4 => ?_⟩
  · by_cases hi : i < ds.length
    · rw [List.getElem?_append_left (by rw [il]; exact hi)] at e
      obtain ⟨v, h1, h2⟩ := ins_at g ws vs ds r i s e
      refine ⟨some v, ?_, h2⟩
      unfold L2.start
      rw [List.getElem?_append_left (by rw [List.length_map, hl]; exact hi), List.getElem?_map, h1]
      rfl
    · rw [List.getElem?_append_right (by rw [il]; omega), List.getElem?_replicate] at e
      split at e
      · cases e
        rename_i hx
        refine ⟨none, ?_, trivial⟩
        unfold L2.start
        rw [List.getElem?_append_right (by rw [List.length_map, hl]; omega), List.getElem?_replicate, if_pos]
        rw [List.length_map, hl]
        rw [il] at hx
        exact hx
      · cases e
  all_goals
    exfalso
    by_cases hi : i < ds.length
    · rw [List.getElem?_append_left (by rw [il]; exact hi)] at e1
      exact ins_own ws ds i es e1
    · rw [List.getElem?_append_right (by rw [il]; omega), List.getElem?_replicate] at e1
      split at e1 <;> cases e1
theorem FnOk.up {P : Program} {w : World} {K : PySem.W.Frag} {mg : Str → Option Value} {base : Heap} {C : CXT} {j k : Nat} {f : Addr} {fd : FuncData} {ps : List Str} {sp : Sp} (h : FnOk P w K mg base C j f fd ps sp) (hj : j ≤ k) : FnOk P w K mg base C k f fd ps sp :=
  ⟨h.len, fun A outer s H args us vs Q E r => h.run A outer s H args us vs Q E ⟨r.hd, by have := r.dp; omega, by have := r.un; omega⟩⟩
/-- what the outside knows -/
structure Gw (P : Program) (w : World) (K : PySem.W.Frag) (mg : Str → Option Value) (base : Heap) (T : Tx) (Pr : Pg) (n : Nat) : Prop where
  fns : ∀ k sg, k < n → T.fns[k]? = some sg → FnX P w K mg base n sg (Pr.F k)
  cons : ∀ k x, T.cons[k]? = some x → ∃ u v, mg x = some u ∧ RelV v u ∧ ∀ G, Rep K G v (Pr.C k)
  blt : ∀ b ∈ bltN, mg b = none
  exs : ∀ c ∈ T.exs, ∃ C, mg c = some (.ref C) ∧ ExK K C
  exm : ∀ c c' b, Pr.X c c' = some b → ∃ C C', mg c = some (.ref C) ∧ mg c' = some (.ref C') ∧ PySem.W.exmOne K (.ref C) (.ref C') = some b
  iss : ∀ c c' b, Pr.I c c' = some b → IssK K mg c c' b
  exr : ∀ c ∈ T.exr, ∃ C, mg c = some (.ref C) ∧ RwK P w K mg base C
theorem fn_ok {P : Program} {w : World} {K : PySem.W.Frag} {mg : Str → Option Value} {base : Heap} {x qual : Str} {params : Arguments} {body : List Stmt} {scope : Scope} {dvs : List V} {kws : List (Str × V)} {f : Addr} {fd : FuncData} {N ps : List Str} {T : Tx} {Pr : Pg} {n : Nat} {sg : Sig} {F : List Dat → Res Dat} {ir : Ss}
    (D : FunD K x qual params body scope dvs kws f fd) (hs : FnScope N ps scope) (hp : ps.length = sg.ln.length) (hn : ps.length ≤ N.length) (hk : okSs (T.at_ sg.cl) n N scope sg.fr ir body = true)
    (hF : ∀ ds, ds.length = sg.ln.length → F ds ≠ .bad → runF Pr N.length sg.ln (sg.fr == 2) ir ds = F ds) (g : Gw P w K mg base T Pr n) :
    FnOk P w K mg base (CXB sg.cl P w) (n + 1) f fd ps (spD K mg sg F) := by
  refine D.ok hs (fun vs H Q E ⟨G, ds, h1, h2, h3, h4⟩ => by rw [h2, hp]) (fun cdv A outer s H vs Q E hr ⟨G, ds, h1, h2, h3, h4⟩ => ?_)
  have tk : ∀ b : Bool, TkB b (cxOf (CXB b P w) P w K mg base N qual scope f cdv A outer s H E) (fun cls d _ H => E cls d H) := fun b => by
    cases b
    · exact takes_of rfl rfl rfl rfl
    · exact L2N.takes_of rfl rfl rfl rfl
  have gs : Gs (cxOf (CXB sg.cl P w) P w K mg base N qual scope f cdv A outer s H E) (T.at_ sg.cl) Pr n (fun cls d _ H => E cls d H) :=
    ⟨⟨rfl, hs.nd, hr, tk sg.cl, g.fns, g.cons, g.blt, g.exs, g.exm, g.iss, g.exr⟩, passes_of rfl, fun _ => rfl, hs.kind, rfl, rfl⟩
  refine ⟨tS _ _ sg.fr (exSs Pr ir), snd_Ss ir body gs hk, H, G, G, _, SR.start h1 h3 (by rw [h2, ← hp]; exact hn), ?_⟩
  have hl : ds.length = sg.ln.length := by rw [← h3.len]; exact h2
  have e : runF Pr N.length sg.ln (sg.fr == 2) ir ds = F ds := hF ds hl (fun z => by rw [z] at h4; exact h4)
  rw [← e] at h4
  unfold runF at h4
  cases q : exSs Pr ir (ins sg.ln ds ++ List.replicate (N.length - ds.length) .un) with
  | nx ρ =>
    rw [q] at h4
    match hf : sg.fr, h4 with
    | 2, h4 => exact h4.elim
    | 0, h4 => exact fun σ H' G' s => h4 .non H' G' s.ext Rep.non
    | 1, h4 => exact fun σ H' G' s => h4 .non H' G' s.ext (.st Rep.non)
    | k + 3, h4 =>
      have hb : (k + 3 == 2) = false := rfl
      rw [hb] at h4
      exact fun σ H' G' s => h4 .non H' G' s.ext ⟨Rep.non, fun ds e => by cases e⟩
  | ct ρ => rw [q] at h4; exact h4.elim
  | ret d => rw [q] at h4; exact fun v H' G' x r => h4 v H' G' x r
  | exc c z => rw [q] at h4; exact fun cls dx σ H' G' x r => h4 cls dx H' G' x r
  | bad => rw [q] at h4; exact h4.elim
def _root_.NW.Pg.add (P : Pg) (n : Nat) (F : List Dat → Res Dat) : Pg := ⟨fun k => if k = n then F else P.F k, P.C, P.X, P.I⟩
theorem reps_ras {K : PySem.W.Frag} {H G : Hp} : ∀ {us : List V} {es : List Dat}, Reps K G us es → RAs K H G (List.replicate us.length false) us es
  | [], _, .nil => .nil
  | _ :: _, _, .cons r t => .cons (by simpa [List.replicate] using r) (reps_ras t)
theorem ras_lastly {K : PySem.W.Frag} {H G : Hp} : ∀ {ws : List Bool} {vs : List V} {ds : List Dat} {us : List V} {es : List Dat}, RAs K H G ws vs ds → vs.length = ws.length → Reps K G us es → RAs K H G (ws ++ List.replicate us.length false) (vs ++ us) (ds ++ es)
  | [], _, _, us, es, .nil, _, r => by simpa using reps_ras (H := H) r
  | _ :: _, _, _, _, _, .nil, h, _ => by simp at h
  | [], _, _, _, _, .cons _ _, h, _ => by simp at h
  | w :: ws, _, _, us, es, .cons h0 t, h, r => .cons h0 (ras_lastly t (by simpa using h) r)
theorem FnX.up {P : Program} {w : World} {K : PySem.W.Frag} {mg : Str → Option Value} {base : Heap} {n : Nat} {sg : Sig} {F : List Dat → Res Dat} (h : FnX P w K mg base n sg F) : FnX P w K mg base (n + 1) sg F := by
  unfold FnX at h ⊢
  cases q : sg.kw with
  | none =>
    rw [q] at h
    obtain ⟨f', fd', ps', ds', dvs', sp', h1, h2, h3, h4, h5, h6⟩ := h
    exact ⟨f', fd', ps', ds', dvs', sp', h1, h2, FnOk.up h3 (Nat.le_succ n), h4, h5, h6⟩
  | some v =>
    rw [q] at h
    obtain ⟨f', fd', ps', g', gV', sp', h1, h2, h3, h4, h5, h6⟩ := h
    exact ⟨f', fd', ps', g', gV', sp', h1, h2, FnOk.up h3 (Nat.le_succ n), h4, h5, h6⟩
theorem Gw.add {P : Program} {w : World} {K : PySem.W.Frag} {mg : Str → Option Value} {base : Heap} {T : Tx} {Pr : Pg} {n : Nat} {sg : Sig} {F : List Dat → Res Dat} (g : Gw P w K mg base T Pr n) (hT : T.fns[n]? = some sg) (h : FnX P w K mg base (n + 1) sg F) : Gw P w K mg base T (Pr.add n F) (n + 1) := by
  refine ⟨fun k sg' hk' hs' => ?_, fun k x h => g.cons k x h, g.blt, g.exs, g.exm, g.iss, g.exr⟩
  by_cases hk : k = n
  · subst hk
    rw [hT] at hs'
    cases hs'
    have e : (Pr.add k F).F k = F := if_pos rfl
    rw [e]
    exact h
  · have e : (Pr.add n F).F k = Pr.F k := if_neg hk
    rw [e]
    exact (g.fns k sg' (by omega) hs').up
theorem Gw.next {P : Program} {w : World} {K : PySem.W.Frag} {mg : Str → Option Value} {base : Heap} {x qual : Str} {params : Arguments} {body : List Stmt} {scope : Scope} {kws : List (Str × V)} {f : Addr} {fd : FuncData} {N ps : List Str} {T : Tx} {Pr : Pg} {n : Nat} {sg : Sig} {F : List Dat → Res Dat} {ir : Ss}
    (g : Gw P w K mg base T Pr n) (hT : T.fns[n]? = some sg) (D : FunD K x qual params body scope [] kws f fd) (hg : mg sg.nm = some (.ref f)) (hs : FnScope N ps scope) (hp : ps.length = sg.ln.length) (hn : ps.length ≤ N.length) (hk : okSs (T.at_ sg.cl) n N scope sg.fr ir body = true)
    (hF : ∀ ds, ds.length = sg.ln.length → F ds ≠ .bad → runF Pr N.length sg.ln (sg.fr == 2) ir ds = F ds)
    (hb : ∀ (kV doc pm : Value) (an : Option Addr) (cdv ct : Value) (us : List Value), us.length = ps.length → bindArgs (PySem.W.fnOf x qual params body scope Value.none kV doc pm an cdv ct) { pos := us } = pure (ps.zip us)) (hkw : sg.kw = none := by rfl) :
    Gw P w K mg base T (Pr.add n F) (n + 1) := by
  refine g.add hT ?_
  unfold FnX
  rw [hkw]
  exact ⟨f, fd, ps, [], [], _, hg, D.kp, fn_ok D hs hp hn hk hF g, D.bindsN hb, .nil, fun vs H Q E q => by rw [List.append_nil]; exact q⟩
/-- a def with defaults, dvs; des: what they are; called with all that lacks behind the first parameters -/
theorem Gw.nextD {P : Program} {w : World} {K : PySem.W.Frag} {mg : Str → Option Value} {base : Heap} {x qual : Str} {params : Arguments} {body : List Stmt} {scope : Scope} {dvs : List V} {kws : List (Str × V)} {f : Addr} {fd : FuncData} {N ps : List Str} {T : Tx} {Pr : Pg} {n : Nat} {sg sg0 : Sig} {F F0 : List Dat → Res Dat} {ir : Ss}
    {j : Nat} {es : List Dat}
    (g : Gw P w K mg base T Pr n) (hT : T.fns[n]? = some sg) (D : FunD K x qual params body scope dvs kws f fd) (hg : mg sg.nm = some (.ref f)) (hs : FnScope N ps scope) (hp : ps.length = sg0.ln.length) (hn : ps.length ≤ N.length) (hk : okSs (T.at_ sg0.cl) n N scope sg0.fr ir body = true)
    (hF : ∀ ds, ds.length = sg0.ln.length → F0 ds ≠ .bad → runF Pr N.length sg0.ln (sg0.fr == 2) ir ds = F0 ds)
    (hfr : sg.fr = sg0.fr) (hcl : sg.cl = sg0.cl := by rfl) (hln : sg0.ln = sg.ln ++ List.replicate (dvs.drop j).length false) (he : ∀ G, Reps K G (dvs.drop j) es) (hF1 : ∀ ds, F ds = F0 (ds ++ es)) (hd : dvs ≠ [])
    (hb : ∀ (T : Addr) (kV doc pm : Value) (an : Option Addr) (cdv ct : Value) (us its : List Value), us.length = sg.ln.length → its.length = dvs.length →
      ∃ k, bindArgs (PySem.W.fnOf x qual params body scope (.ref T) kV doc pm an cdv ct) { pos := us } = seqItems? (.ref T) >>= k ∧ k (some its.toArray) = pure (ps.zip (us ++ its.drop j))) (hkw : sg.kw = none := by rfl) :
    Gw P w K mg base T (Pr.add n F) (n + 1) := by
  refine g.add hT ?_
  unfold FnX
  rw [hkw]
  have hlen : sg.ln.length + (dvs.length - j) = ps.length := by
    rw [hp, hln, List.length_append, List.length_replicate, List.length_drop]
  obtain ⟨ds, rds, hB⟩ := D.binds1 sg.ln.length j hd hlen hb
  have hfo := fn_ok D hs hp hn hk hF g
  rw [← hcl] at hfo
  refine ⟨f, fd, ps, ds, dvs.drop j, _, hg, D.kp, hfo, hB, rds, fun vs H Q E q => ?_⟩
  obtain ⟨G, ds', h1, h2, h3, h4⟩ := q
  refine ⟨G, ds' ++ es, h1, ?_, ?_, ?_⟩
  · rw [hln, List.length_append, List.length_append, List.length_replicate, h2]
  · rw [hln]
    exact ras_lastly h3 h2 (he G)
  · rw [← hF1, ← hfr]
    exact h4
theorem ras_strong {K : PySem.W.Frag} {H G : Hp} : ∀ {m : Nat} {vs : List V} {ds : List Dat}, RAs K H G (List.replicate m false) vs ds → Reps K G vs ds
  | _, _, _, .nil => .nil
  | 0, _, _, .cons r t => .cons (by simpa using r) (ras_strong (m := 0) t)
  | m + 1, _, _, .cons r t => .cons (by simpa [List.replicate] using r) (ras_strong t)
/-- .. with the last parameter told by its name, w; behind m written ones stand j defaults -/
theorem Gw.nextK {P : Program} {w_ : World} {K : PySem.W.Frag} {mg : Str → Option Value} {base : Heap} {x qual : Str} {params : Arguments} {body : List Stmt} {scope : Scope} {dvs : List V} {kws : List (Str × V)} {f : Addr} {fd : FuncData} {N ps : List Str} {T : Tx} {Pr : Pg} {n : Nat} {sg sg0 : Sig} {F F0 : List Dat → Res Dat} {ir : Ss}
    {j m : Nat} {es : List Dat} {w : Str}
    (g : Gw P w_ K mg base T Pr n) (hT : T.fns[n]? = some sg) (D : FunD K x qual params body scope dvs kws f fd) (hg : mg sg.nm = some (.ref f)) (hs : FnScope N ps scope) (hp : ps.length = sg0.ln.length) (hn : ps.length ≤ N.length) (hk : okSs (T.at_ sg0.cl) n N scope sg0.fr ir body = true)
    (hF : ∀ ds, ds.length = sg0.ln.length → F0 ds ≠ .bad → runF Pr N.length sg0.ln (sg0.fr == 2) ir ds = F0 ds)
    (hkw : sg.kw = some w) (hfr : sg.fr = sg0.fr) (hcl : sg.cl = sg0.cl := by rfl) (hln : sg.ln = List.replicate (m + 1) false) (hln0 : sg0.ln = List.replicate ps.length false) (hlen : m + (j + 1) = ps.length) (hj : j ≤ dvs.length)
    (he : ∀ G, Reps K G (dvs.take j) es) (hF1 : ∀ ds d, ds.length = m → F (ds ++ [d]) = F0 (ds ++ (es ++ [d]))) (hd : dvs ≠ [])
    (hb : ∀ (T : Addr) (kV doc pm : Value) (an : Option Addr) (cdv ct : Value) (us its : List Value) (v : Value), us.length = m → its.length = dvs.length →
      ∃ k, bindArgs (PySem.W.fnOf x qual params body scope (.ref T) kV doc pm an cdv ct) ⟨us, [(w, v)]⟩ = seqItems? (.ref T) >>= k ∧ k (some its.toArray) = pure (ps.zip (us ++ (its.take j ++ [v])))) :
    Gw P w_ K mg base T (Pr.add n F) (n + 1) := by
  refine g.add hT ?_
  unfold FnX
  rw [hkw]
  have hF' := fn_ok D hs hp hn hk hF g
  rw [← hcl] at hF'
  have kp := D.kp
  obtain ⟨oc, od, dV, kV, doc, pm, an, cdv, ct, osl, rfl, lk, hcd, hD, hK⟩ := D.ex
  rcases hD with ⟨e, _⟩ | ⟨_, T', o, its, m', rfl, lT, oT, rT⟩
  · exact absurd e hd
  · refine ⟨f, _, ps, fun us ws => us ++ (its.take j ++ ws), fun vs zs => vs ++ (dvs.take j ++ zs), _, hg, kp, hF', ⟨fun s us ws X l1 l2 => ?_, fun r1 r2 => r1.append ((rT.take j).append r2)⟩, by rw [hln, List.length_replicate], fun vs z H Q E q => ?_⟩
    · match ws, l2 with
      | [v], _ =>
        rw [hln, List.length_replicate] at l1
        obtain ⟨k, e1, e2⟩ := hb T' kV doc pm an cdv ct us its v (by simpa using l1) rT.length.symm
        refine BindsTo.of_looks fun M => ?_
        show PySem.W.Looks M s.heap (bindArgs _ ⟨us, [(w, v)]⟩) _
        rw [e1]
        exact looks_items X lT oT (.of_pure e2)
    · obtain ⟨G, ds', h1, h2, h3, h4⟩ := q
      rw [hln] at h2 h3
      have rr := ras_strong h3
      rw [List.length_append, List.length_replicate] at h2
      have hvl : vs.length = m := by simpa using h2
      have hdl : ds'.length = m + 1 := by rw [← rr.length, List.length_append, hvl]; rfl
      obtain ⟨ds1, d, rfl⟩ : ∃ ds1 d, ds' = ds1 ++ [d] := by
        have hne : ds' ≠ [] := fun z => by rw [z] at hdl; simp at hdl
        exact ⟨ds'.dropLast, ds'.getLast hne, (List.dropLast_concat_getLast hne).symm⟩
      have hd1 : ds1.length = m := by simpa using hdl
      have r1 : Reps K G vs ds1 := by
        have := rr.take m
        rwa [List.take_left' hvl, List.take_left' hd1] at this
      have r2 : Reps K G [z] [d] := by
        have := rr.drop m
        rwa [List.drop_left' hvl, List.drop_left' hd1] at this
      refine ⟨G, ds1 ++ (es ++ [d]), h1, ?_, ?_, ?_⟩
      · rw [hln0, List.length_replicate, List.length_append, List.length_append, hvl, List.length_take, Nat.min_eq_left hj]
        exact hlen
      · rw [hln0]
        exact ras_false (r1.append ((he G).append r2))
      · rw [← hF1 ds1 d hd1, ← hfr]
        exact h4
/-! ### more of what the top leaves -/
/-- self.row = row, as it is written -/
def initB (sc : Scope) : List Stmt → Bool
  | [st] => (match st with
    | .Assign ts y _ => (match ts with
      | [t] => (match t with
        | .Attribute o m _ => nmE "self" o && decide (m = ("row" : Str)) && nmE "row" y && visB sc "self" && visB sc "row"
        | _ => false)
      | _ => false)
    | _ => false)
  | _ => false
theorem initB_ok {sc : Scope} {b : List Stmt} (h : initB sc b = true) : ∃ p1 p2 p3 p4, b = [.Assign [.Attribute (.Name "self" p1) "row" p2] (.Name "row" p3) p4] ∧ visB sc "self" = true ∧ visB sc "row" = true := by
  cases b with
  | nil => cases h
  | cons st r =>
    cases r with
    | cons _ _ => cases h
    | nil =>
      simp only [initB] at h
      cases st <;> simp only at h <;> try (cases h; done)
      rename_i ts y p4
      cases ts with
      | nil => cases h
      | cons t r =>
        cases r with
        | cons _ _ => cases h
        | nil =>
          cases t <;> simp only at h <;> try (cases h; done)
          rename_i o m p2
          simp only [Bool.and_eq_true, decide_eq_true_eq] at h
          obtain ⟨⟨⟨⟨h1, rfl⟩, h3⟩, h4⟩, h5⟩ := h
          obtain ⟨p1, rfl⟩ := nmE_ok h1
          obtain ⟨p3, rfl⟩ := nmE_ok h3
          exact ⟨_, _, _, _, rfl, h4, h5⟩
theorem init_run {X : Cx} {body : List Stmt} (hN : X.N = [("self" : Str), ("row" : Str)]) (hb : initB X.env.scope body = true) : PSs X body (tOst X.K "row" (tVar 0) (tVar 1)) := by
  obtain ⟨p1, p2, p3, p4, rfl, h1, h2⟩ := initB_ok hb
  exact pss_one (ps_ost (pe_var (i := 0) (by rw [hN]; rfl) (vis_of h1)) (pe_var (i := 1) (by rw [hN]; rfl) (vis_of h2)))
theorem init_end {K : PySem.W.Frag} {vs : List V} {H : Hp} {Q : VK} {E : XK} (h : spInit K vs H Q E) : tOst K "row" (tVar 0) (tVar 1) { nx := fun _ H' => Q .non H', rt := Q } (L2.start ["self", "row"] vs) H := by
  obtain ⟨a, C, v, rfl, h1, h2, h3, h4⟩ := h
  exact ⟨_, rfl, _, rfl, a, C, rfl, h1, h2, .inl ⟨h3, h4⟩⟩
theorem init_len {K : PySem.W.Frag} (vs : List V) (H : Hp) (Q : VK) (E : XK) (h : spInit K vs H Q E) : vs.length = [("self" : Str), ("row" : Str)].length := by
  obtain ⟨a, C, v, rfl, _⟩ := h
  rfl
theorem init_fn {P : Program} {w : World} {K : PySem.W.Frag} {mg : Str → Option Value} {base : Heap} {x qual : Str} {params : Arguments} {body : List Stmt} {scope : Scope} {f : Addr} {fd : FuncData}
    (D : FunD K x qual params body scope [] [] f fd) (hs : FnScope ["self", "row"] ["self", "row"] scope) (hb : initB scope body = true) :
    FnOk P w K mg base (L2.CX P w) 1 f fd ["self", "row"] (spInit K) ∧ L2H.FnH P w K mg base (L2.CX P w) 1 f fd ["self", "row"] (spInit K) := by
  refine ⟨D.ok hs init_len fun cdv A outer s H vs Q E hr h => ⟨_, init_run rfl hb, init_end h⟩, ?_⟩
  obtain ⟨oc, od, dV, kV, doc, pm, an, cdv, ct, osl, rfl, lk, hcd, _, _⟩ := D.ex
  exact L2H.fn_ofH lk hcd hs init_len fun A outer s H vs Q E p hot hr h => ⟨_, init_run rfl hb, init_end h⟩
/-- what the top says of a class that is made with a row -/
def oexCls (K : PySem.W.Frag) (C : Addr) : Bool := match K.lookup C with
  | some ⟨.type "type", _, .cls cd, sl⟩ => (match cd.mro, sl.toList with
    | .ref C2 :: l, [_, _, _, _, some (.builtin m), _] => (C2 == C) && ((m == "ValueError.__new__") && (!cd.hasDel && (cd.hasDict && PySem.HandSPX.refsVE l)))
    | _, _ => false)
  | _ => false
theorem oexCls_ok {K : PySem.W.Frag} {C : Addr} (h : oexCls K C = true) : ∃ nm q N bs bm sn sub ab col dd k0 k1 k2 k3 k5, K.lookup C = some (excClassObj nm q C N bs bm true sn sub ab col dd k0 k1 k2 k3 k5 "ValueError.__new__") ∧ PySem.HandSPX.refsVE bm = true := by
  unfold oexCls at h
  split at h
  · rename_i dd cd sl hl
    split at h
    · rename_i C2 l a0 a1 a2 a3 m a5 e1 e2
      obtain ⟨h1, h⟩ := He.ba h
      obtain ⟨h2, h⟩ := He.ba h
      obtain ⟨h3, h⟩ := He.ba h
      obtain ⟨h4, h5⟩ := He.ba h
      have h1 := eq_of_beq h1
      have h2 := eq_of_beq h2
      subst h1 h2
      obtain ⟨n1, n2, n3, n4, n5, n6, n7, n8, n9, n10, n11⟩ := cd
      dsimp only at e1 h3 h4
      subst e1 h4
      have h3' : n11 = false := by simpa using h3
      subst h3'
      have es : sl = #[a0, a1, a2, a3, some (.builtin "ValueError.__new__"), a5] := by
        cases sl
        exact congrArg Array.mk e2
      subst es
      exact ⟨_, _, _, _, l, _, _, _, _, _, _, _, _, _, _, hl, h5⟩
    · cases h
  · cases h
def rwB (K : PySem.W.Frag) (C fI : Addr) : Bool := xfB K C && (oexCls K C && (He.eqO (PySem.W.findIn K (.ref C) "__setattr__") (some (some (.builtin "object.__setattr__"))) && (decide (PySem.W.subIn K (.ref C) (.type "BaseException") = some true) && (decide (PySem.W.typeIn K (.ref C) = some (.type "type")) &&
  (PySem.W.keepIn K (.ref C) && (He.eqO (PySem.W.findIn K (.ref C) "row") (some none) && (He.eqO (PySem.W.findIn K (.ref C) "__init__") (some (some (.ref fI))) && decide (PySem.W.typeIn K (.ref fI) = some (.type "function")))))))))
theorem rwB_ok {P : Program} {w : World} {K : PySem.W.Frag} {mg : Str → Option Value} {base : Heap} {C fI : Addr} {fd : FuncData} (h : rwB K C fI = true) (h1 : FnOk P w K mg base (L2.CX P w) 1 fI fd ["self", "row"] (spInit K))
    (h2 : L2H.FnH P w K mg base (L2.CX P w) 1 fI fd ["self", "row"] (spInit K)) (h3 : Binds K fd ["self", "row"] []) : RwK P w K mg base C := by
  obtain ⟨a0, h⟩ := He.ba h
  obtain ⟨a1, h⟩ := He.ba h
  obtain ⟨a2, h⟩ := He.ba h
  obtain ⟨a3, h⟩ := He.ba h
  obtain ⟨a4, h⟩ := He.ba h
  obtain ⟨a5, h⟩ := He.ba h
  obtain ⟨a6, h⟩ := He.ba h
  obtain ⟨a7, a8⟩ := He.ba h
  exact ⟨fI, fd, ⟨oexCls_ok a1, He.eqO_ok a2, of_decide_eq_true a3, of_decide_eq_true a4, a5⟩, He.eqO_ok a6, He.eqO_ok a7, of_decide_eq_true a8, h1, h2, h3, xfB_ok a0⟩
/-! ### a def that is one try -/
def okX (T : Tx) (n : Nat) (N : List Str) (sc : Scope) (e : E) (c d : Str) (i : Nat) : List Stmt → Bool
  | [st] => (match tryX1 c st with
    | some (y, d', v) => decide (d' = d) && glB sc c && okN c && T.exs.contains c && glB sc d && okN d && T.exr.contains d && decide (2 ≤ n) && decide (N[i]? = some v) && visB sc v && okN v && okE (T.at_ true) n N sc e y && kd (T.at_ true) e != 1
    | none => false)
  | _ => false
theorem fn_okX {P : Program} {w : World} {K : PySem.W.Frag} {mg : Str → Option Value} {base : Heap} {x qual : Str} {params : Arguments} {body : List Stmt} {scope : Scope} {dvs : List V} {kws : List (Str × V)} {f : Addr} {fd : FuncData} {N ps : List Str} {T : Tx} {Pr : Pg} {n : Nat} {sg : Sig} {F : List Dat → Res Dat} {e : E} {c d : Str} {i : Nat}
    (D : FunD K x qual params body scope dvs kws f fd) (hs : FnScope N ps scope) (hp : ps.length = sg.ln.length) (hn : ps.length ≤ N.length) (hk : okX T n N scope e c d i body = true) (hfr : sg.fr = 0)
    (hF : ∀ ds, ds.length = sg.ln.length → F ds ≠ .bad → runF Pr N.length sg.ln (sg.fr == 2) (.cons (.tryX e c d i) .nil) ds = F ds) (g : Gw P w K mg base T Pr n) :
    FnOk P w K mg base (L2.CX P w) (n + 1) f fd ps (spD K mg sg F) := by
  refine D.ok hs (fun vs H Q E ⟨G, ds, h1, h2, h3, h4⟩ => by rw [h2, hp]) (fun cdv A outer s H vs Q E hr ⟨G, ds, h1, h2, h3, h4⟩ => ?_)
  cases body with
  | nil => cases hk
  | cons st rst =>
    cases rst with
    | cons _ _ => cases hk
    | nil =>
      simp only [okX] at hk
      cases qt : tryX1 c st with
      | none => rw [qt] at hk; cases hk
      | some p =>
        obtain ⟨y, d', v⟩ := p
        rw [qt] at hk
        obtain ⟨p1, np, hp', rp, vp, cp, pos, tp, rfl⟩ := tryX1_ok qt
        simp only [Bool.and_eq_true, decide_eq_true_eq, bne_iff_ne] at hk
        obtain ⟨⟨⟨⟨⟨⟨⟨⟨⟨⟨⟨⟨rfl, k1⟩, k2⟩, k3⟩, k4⟩, k5⟩, k6⟩, k7⟩, k8⟩, k9⟩, k10⟩, k11⟩, k12⟩ := hk
        obtain ⟨C, hC, _⟩ := g.exs _ (List.contains_iff_mem.mp k3)
        obtain ⟨C2, hC2, fI, fd2, r1, r2, r3, r4, r5, r6, r7, r8⟩ := g.exr _ (List.contains_iff_mem.mp k6)
        have gc : scope.names.lookup c = some .globalImplicit := of_decide_eq_true k1
        have gd : scope.names.lookup d' = some .globalImplicit := of_decide_eq_true k4
        have hl : ds.length = sg.ln.length := by rw [← h3.len]; exact h2
        have eF := hF ds hl (fun z => by rw [z] at h4; exact h4)
        rw [← eF] at h4
        let X := cxOf (L2.CX P w) P w K mg base N qual scope f cdv A outer s H E
        have tk : Takes X (fun cls d _ H => E cls d H) := takes_of rfl rfl rfl rfl
        have st0 : SR X.K H G (ins sg.ln ds ++ List.replicate (N.length - ds.length) .un) (L2.start N vs) H G := SR.start (N := N) h1 h3 (by rw [h2, ← hp]; exact hn)
        have PSx := L2H.ps_try_onlyX (X := X) (x := c) (c := .ref C) (np := np) (pos := tp) (pos' := hp') (suite := []) (tb := fun W' D σ H => tK X Pr W' 0 e σ H D.rt)
          (ts := fun a cls dd D σ H => tMkO C2 (spInit K) [] (tCons (tVar i) tNil) σ H fun cls d H' => E cls d H') (Wout := fun cls d _ H => E cls d H) (b₀ := .Raise (some (.Call (.Name d' rp) [.Name v vp] [] cp)) none pos) (body := [.Return (some y) p1])
          rfl rfl ⟨gc, okN_d k2, .inl hC⟩ (L2H.passesAt_of rfl) tk
          (fun W' pn xe tkN _ ps => PSs.imp (pss_one (ps_ret (stillE k12 (snd_E (P := Pr) (T := T.at_ true) (n := n) e (X.tr pn xe) W' y ⟨rfl, hs.nd, hr, tkN, g.fns, g.cons, g.blt, g.exs, g.exm, g.iss, g.exr⟩ k11).pe))) fun D σ H q => q)
          (fun a oe cls dd pn hz hf tkS hot => pss_one (L2H.ps_raiseH hot tkS (L2H.PMk5.pmk (L2H.pmk5_oexH (X := L2H.suiteX X a ((a, oe) :: pn)) r1 r3 r4 r6 (L2H.roomH_mark (hr.mono k7) _) hot r7 passes0 gd hC2
            (pa_cons (pe_var (X := L2H.suiteX X a ((a, oe) :: pn)) k8 (vis_of k9) (okN_d k10) (okN_c k10)) pa_nil rfl) (okN_d k5) rfl rfl))))
        refine ⟨_, pss_one PSx, ?_⟩
        unfold runF at h4
        simp only [exSs, exS] at h4
        refine ⟨H, G, _, st0.er, ?_⟩
        cases qe : ev Pr e (ins sg.ln ds ++ List.replicate (N.length - ds.length) .un) with
        | bad => rw [qe] at h4; exact h4.elim
        | ok d0 =>
          rw [qe] at h4
          intro v0 H1 G1 x1 rv
          refine h4 v0 H1 G1 (st0.ext.trans x1) ?_
          rw [hfr]
          exact rv
        | exc c1 z =>
          rw [qe] at h4
          simp only [tryXO] at h4
          cases qm : Pr.X c1 c with
          | none => rw [qm] at h4; exact h4.elim
          | some b =>
            rw [qm] at h4
            obtain ⟨D1, D2, m1, m2, m3⟩ := g.exm c1 c b qm
            rw [hC] at m2
            cases m2
            intro cls dx H1 G1 x1 rv
            obtain ⟨⟨D3, m4, rfl⟩, rv2⟩ := rv
            have m4 : mg c1 = some (.ref D3) := m4
            rw [m1] at m4
            cases m4
            refine ⟨b, m3, fun hb a na => ?_, fun hb => ?_⟩
            · subst hb
              simp only at h4
              cases hd : getS (ins sg.ln ds ++ List.replicate (N.length - ds.length) .un) i with
              | fz vd =>
                rw [hd] at h4
                obtain ⟨o, o1, v1, rfl, rv1⟩ := (st0.on x1).er.at_ i _ (getS_some hd nofun)
                refine ⟨v1, o1, ?_⟩
                refine mk_row (H := H1) (v := v1) (Q := fun cls d H' => E cls d H') r1 r2 fun a dx na nd hda => ?_
                obtain ⟨y1, y2⟩ := made_row (mg := mg) (c := d') (st0.on x1).er.sub na nd hda hC2 rv1
                exact h4 _ _ _ _ ((st0.on x1).ext.trans y1) y2
              | un => rw [hd] at h4; exact h4.elim
              | ow _ => rw [hd] at h4; exact h4.elim
              | ln _ => rw [hd] at h4; exact h4.elim
              | ex _ _ _ _ => rw [hd] at h4; exact h4.elim
            · subst hb
              exact h4 _ dx H1 G1 (st0.ext.trans x1) ⟨⟨D1, m1, rfl⟩, rv2⟩
theorem Gw.nextX {P : Program} {w : World} {K : PySem.W.Frag} {mg : Str → Option Value} {base : Heap} {x qual : Str} {params : Arguments} {body : List Stmt} {scope : Scope} {kws : List (Str × V)} {f : Addr} {fd : FuncData} {N ps : List Str} {T : Tx} {Pr : Pg} {n : Nat} {sg : Sig} {F : List Dat → Res Dat} {e : E} {c d : Str} {i : Nat}
    (g : Gw P w K mg base T Pr n) (hT : T.fns[n]? = some sg) (D : FunD K x qual params body scope [] kws f fd) (hg : mg sg.nm = some (.ref f)) (hs : FnScope N ps scope) (hp : ps.length = sg.ln.length) (hn : ps.length ≤ N.length) (hk : okX T n N scope e c d i body = true)
    (hF : ∀ ds, ds.length = sg.ln.length → F ds ≠ .bad → runF Pr N.length sg.ln (sg.fr == 2) (.cons (.tryX e c d i) .nil) ds = F ds)
    (hb : ∀ (kV doc pm : Value) (an : Option Addr) (cdv ct : Value) (us : List Value), us.length = ps.length → bindArgs (PySem.W.fnOf x qual params body scope Value.none kV doc pm an cdv ct) { pos := us } = pure (ps.zip us)) (hkw : sg.kw = none := by rfl) (hfr : sg.fr = 0 := by rfl) (hcl : sg.cl = false := by rfl) :
    Gw P w K mg base T (Pr.add n F) (n + 1) := by
  refine g.add hT ?_
  unfold FnX
  rw [hkw]
  have z := fn_okX D hs hp hn hk hfr hF g
  refine ⟨f, fd, ps, [], [], _, hg, D.kp, ?_, D.bindsN hb, .nil, fun vs H Q E q => by rw [List.append_nil]; exact q⟩
  rw [hcl]
  exact z
def kitB (K : PySem.W.Frag) (D : Addr) (cv : Value) (b : Bool) : Bool := decide (PySem.W.kitOne K (.ref D) cv = some b)
theorem kitB_ok {K : PySem.W.Frag} {D : Addr} {cv : Value} {b : Bool} (h : kitB K D cv b = true) : PySem.W.kitOne K (.ref D) cv = some b := of_decide_eq_true h
def excCB (K : PySem.W.Frag) (D : Addr) : Bool := He.eqO (PySem.W.findIn K (.ref D) "row") (some none) && (He.eqO (PySem.W.findIn K (.ref D) "__getattribute__") (some (some (.builtin "BaseException.__getattribute__"))) && (He.eqO (PySem.W.findIn K (.ref D) "__getattr__") (some none) &&
  (decide (PySem.W.subIn K (.ref D) (.type "BaseException") = some true) && (PySem.W.hasDictIn K D && (He.eqO (PySem.W.findIn K (.ref D) "__class__") (some (some (.builtin "object.__class__"))) &&
  (He.eqO (PySem.W.specialIn K (.builtin "object.__class__") "__get__") (some (some (.builtin "getset_descriptor.__get__"))) && (decide (PySem.W.takesIn K (.builtin "object.__class__") = some true) && decide (PySem.W.mroIn K D (.type "object") = some true))))))))
theorem excCB_ok {K : PySem.W.Frag} {D : Addr} (h : excCB K D = true) : ExcC K D ∧ PySem.W.findIn K (.ref D) "row" = some none := by
  obtain ⟨h0, h⟩ := He.ba h
  refine ⟨?_, He.eqO_ok h0⟩
  obtain ⟨h1, h⟩ := He.ba h
  obtain ⟨h2, h⟩ := He.ba h
  obtain ⟨h3, h⟩ := He.ba h
  obtain ⟨h4, h⟩ := He.ba h
  obtain ⟨h5, h⟩ := He.ba h
  obtain ⟨h6, h⟩ := He.ba h
  obtain ⟨h7, h8⟩ := He.ba h
  exact ⟨He.eqO_ok h1, He.eqO_ok h2, of_decide_eq_true h3, h4, He.eqO_ok h5, He.eqO_ok h6, of_decide_eq_true h7, of_decide_eq_true h8⟩
abbrev AlX : Type := He.AlD × Bool
def exAll (ex : List (PySem.W.Frag → Bool)) (K : PySem.W.Frag) : Bool := ex.all fun f => f K
def obsXG (n : Nat) (fa : List He.Fa) (fn : List He.DefD) (ex : List (PySem.W.Frag → Bool)) (g : Addr → Option Obj) : AlX := (He.obsDG n fa fn g, exAll ex (He.frG g (He.asD g n)))
def hookX (n : Nat) (fa : List He.Fa) (fn : List He.DefD) (ex : List (PySem.W.Frag → Bool)) : PySem.W.Hook where
  α := AlX
  obs := fun s => obsXG n fa fn ex s.heap.get?
  val := fun _ => (He.valD fn, true)
  says := fun _ h => ∃ K : PySem.W.Frag, K.In h ∧ He.SaysD fa fn K ∧ exAll ex K = true
  of := fun _ _ e => ⟨_, He.frG_in, congrArg (fun z : AlX => z.1) e, congrArg (fun z : AlX => z.2) e⟩
  keeps := fun _ _ _ ⟨K, hK, c⟩ k => ⟨K, PySem.W.Frag.In.keeps hK k, c⟩
theorem obsXG_eq {n : Nat} {fa : List He.Fa} {fn : List He.DefD} {ex : List (PySem.W.Frag → Bool)} {g : Addr → Option Obj} {s : Shared} (h : ∀ a, g a = s.heap.get? a) : obsXG n fa fn ex g = (hookX n fa fn ex).obs s := by
  have e : g = s.heap.get? := funext h
  rw [e] <;> rfl
theorem exAll_at {ex : List (PySem.W.Frag → Bool)} {K : PySem.W.Frag} (h : exAll ex K = true) (i : Nat) {f : PySem.W.Frag → Bool} (e : ex[i]? = some f) : f K = true := List.all_eq_true.mp h f (List.mem_of_getElem? e)
/-- a global tuple of texts -/
def strsB : List Value → List Str → Bool
  | [], [] => true
  | .str y _ :: vs, z :: zs => decide (y = z) && strsB vs zs
  | _, _ => false
theorem strsB_ok : ∀ {vs : List Value} {zs : List Str}, strsB vs zs = true → Vals (zs.map V.str) vs
  | [], [], _ => .nil
  | [], _ :: _, h => by cases h
  | v :: vs, [], h => by cases v <;> cases h
  | v :: vs, z :: zs, h => by
    cases v <;> simp only [strsB] at h <;> try (cases h; done)
    rw [Bool.and_eq_true, decide_eq_true_eq] at h
    obtain ⟨rfl, h⟩ := h
    exact .cons ⟨_, rfl⟩ (strsB_ok h)
theorem reps_strs {K : PySem.W.Frag} {G : Hp} : ∀ zs : List Str, Reps K G (zs.map V.str) (zs.map PyData.str)
  | [] => .nil
  | z :: zs => .cons (.str z) (reps_strs zs)
def tupOB (o : Option Obj) (zs : List Str) : Bool := match o with
  | some o => decide (o.cls = .type "tuple") && (match o.data with
    | .seq its _ => decide (its.size ≤ 1000) && strsB its.toList zs
    | _ => false)
  | none => false
def tupSB (K : PySem.W.Frag) (x : Str) (zs : List Str) : Bool := match PySem.W.nsIn K mainGlobals x with
  | some (some (.ref a)) => tupOB (K.lookup a) zs
  | _ => false
theorem tupSB_ok {K : PySem.W.Frag} {h : Heap} {mg : Str → Option Value} (X : K.In h) (G : h.Ns mainGlobals mg) {x : Str} {zs : List Str} (c : tupSB K x zs = true) : ∃ u v, mg x = some u ∧ RelV v u ∧ ∀ G, Rep K G v (.tuple (zs.map .str)) := by
  unfold tupSB at c
  split at c
  · rename_i a e
    refine ⟨.ref a, .ref a, PySem.W.mg_of X G e, rfl, fun G => ?_⟩
    cases q : K.lookup a with
    | none => rw [q] at c; cases c
    | some o =>
      rw [q] at c
      simp only [tupOB, Bool.and_eq_true, decide_eq_true_eq] at c
      obtain ⟨c1, c2⟩ := c
      cases qd : o.data with
      | seq its n =>
        rw [qd] at c2
        simp only [Bool.and_eq_true, decide_eq_true_eq] at c2
        exact .tup (.inr ⟨o, its, n, q, c1, qd, Nat.le_trans c2.1 (by rw [sizeLine_eq]; decide), strsB_ok c2.2⟩) (reps_strs zs)
      | _ => rw [qd] at c2; cases c2
  · cases c
/-- a table of which class meets which clause -/
def xmF : List (Str × Str × Bool) → Str → Str → Option Bool
  | [], _, _ => none
  | (a, b, r) :: l, c, c' => if a = c ∧ b = c' then some r else xmF l c c'
theorem xm_of {p : Str → Str → Bool → Prop} : ∀ {l : List (Str × Str × Bool)} {c c' : Str} {b : Bool}, xmF l c c' = some b → (∀ q ∈ l, p q.1 q.2.1 q.2.2) → p c c' b
  | [], _, _, _, h, _ => by cases h
  | (a, b, r) :: l, c, c', z, h, q => by
    unfold xmF at h
    split at h
    · rename_i e
      obtain ⟨rfl, rfl⟩ := e
      cases h
      exact q (a, b, r) (by simp)
    · exact xm_of h fun x hx => q x (by simp [hx])
theorem reps_ints {K : PySem.W.Frag} {G : Hp} : ∀ ns : List Int, Reps K G (ns.map V.int) (ns.map PyData.int)
  | [] => .nil
  | n :: ns => .cons (.int n) (reps_ints ns)
theorem law_sp {K : PySem.W.Frag} {mg : Str → Option Value} {nm : Str} {b : Bool} {F : List Dat → Res Dat} {H : Hp} {a : Addr} {ns : List Int} (h : F [.list (ns.map .int)] = .ok (.bool true)) (hS : SqL K H a (ns.map V.int)) :
    spD K mg ⟨nm, [b], 0, none, false⟩ F [.ref a] H (fun v _ => v = .bl true) (fun _ _ _ => False) := by
  have r : Rep K H (.ref a) (.list (ns.map .int)) := .lst hS (reps_ints ns)
  refine ⟨H, [.list (ns.map .int)], Same.refl H, rfl, .cons ?_ .nil, ?_⟩
  · cases b
    · exact r
    · exact RW.st r
  · rw [h]
    intro v H' G' x r
    cases r
    rfl
theorem law_F {P : Program} {w : World} {K : PySem.W.Frag} {mg : Str → Option Value} {base : Heap} {x qual : Str} {params : Arguments} {body : List Stmt} {scope : Scope} {kws : List (Str × V)} {f : Addr} {fd : FuncData} {N ps : List Str} {T : Tx} {Pr : Pg} {n : Nat} {sg : Sig} {F : List Dat → Res Dat} {ir : Ss}
    (g : Gw P w K mg base T Pr n) (D : FunD K x qual params body scope [] kws f fd) (hs : FnScope N ps scope) (hp : ps.length = sg.ln.length) (hn : ps.length ≤ N.length) (hk : okSs (T.at_ sg.cl) n N scope sg.fr ir body = true)
    (hF : ∀ ds, ds.length = sg.ln.length → F ds ≠ .bad → runF Pr N.length sg.ln (sg.fr == 2) ir ds = F ds) (hcl : sg.cl = false := by rfl) : FnOk P w K mg base (L2.CX P w) (n + 1) f fd ps (spD K mg sg F) := by
  have z := fn_ok D hs hp hn hk hF g
  rw [hcl] at z
  exact z
/-- nothing leaves the law -/
theorem law_end {P : Program} {w : World} {K : PySem.W.Frag} {mg : Str → Option Value} {base : Heap} {k : Nat} {f : Addr} {fd : FuncData} {ps : List Str} {sp : Sp} (h : FnOk P w K mg base (L2.CX P w) k f fd ps sp) :
    FnOk P w K mg base CX0 k f fd ps (fun vs H Q _ => sp vs H Q (fun _ _ _ => False)) :=
  ⟨fun vs H Q E q => h.len vs H Q _ q, fun A outer s H args us vs Q E r e b v q => codeAny_mono (h.run A outer s H args us vs Q _ r e b v q) fun r s' z => by
    cases r with
    | ok fl => cases fl <;> exact z
    | error e =>
      obtain ⟨a, B, H', cls, d, _, _, _, _, _, _, _, z⟩ := z
      exact z⟩
/-- a class's k-th method, by place -/
def mth (st : Stmt) (k : Nat) : Stmt :=
  match st with
  | .ClassDef _ _ _ b _ _ _ _ _ _ _ => b.getD k (.Pass ⟨0, 0, 0, 0⟩)
  | _ => .Pass ⟨0, 0, 0, 0⟩
end NW
end

section
set_option maxHeartbeats 4000000
/-! Reading terms by simp; general laws of loops, cuts, equality over data. -/
namespace NW
open PySem PySem.Spec PyProof.Rows L2
/-! ### the steps of terms, without binders -/
def binR (o : Bop) (r s : Res Dat) : Res Dat := r >>= fun d => s >>= fun e => binD o d e
@[simp] theorem binR_ok (o : Bop) (d e : Dat) : binR o (.ok d) (.ok e) = binD o d e := nrfl rfl
@[simp] theorem binR_x (o : Bop) (c : Str) (x : Option Dat) (s : Res Dat) : binR o (.exc c x) s = .exc c x := nrfl rfl
@[simp] theorem binR_y (o : Bop) (d : Dat) (c : Str) (x : Option Dat) : binR o (.ok d) (.exc c x) = .exc c x := nrfl rfl
def negR (r : Res Dat) : Res Dat := r >>= fun d => match d with
    | .int i => .ok (.int (-i))
    | _ => .bad
@[simp] theorem negR_ok (i : Int) : negR (.ok (.int i)) = .ok (.int (-i)) := nrfl rfl
def blR (r : Res Bool) : Res Dat := r >>= fun r => .ok (.bool r)
@[simp] theorem blR_ok (b : Bool) : blR (.ok b) = .ok (.bool b) := nrfl rfl
def cmpR (o : Cop) (r s : Res Dat) : Res Dat := r >>= fun d => s >>= fun e => blR (cmpD o d e)
@[simp] theorem cmpR_ok (o : Cop) (d e : Dat) : cmpR o (.ok d) (.ok e) = blR (cmpD o d e) := nrfl rfl
@[simp] theorem cmpR_x (o : Cop) (c : Str) (x : Option Dat) (s : Res Dat) : cmpR o (.exc c x) s = .exc c x := nrfl rfl
@[simp] theorem cmpR_y (o : Cop) (d : Dat) (c : Str) (x : Option Dat) : cmpR o (.ok d) (.exc c x) = .exc c x := nrfl rfl
def chnB (o : Res Bool) (p : Cop) (e : Dat) (t : Res Dat) : Res Dat := o >>= fun r => match r with
    | true => t >>= fun f => blR (cmpD p e f)
    | false => .ok (.bool false)
@[simp] theorem chnB_t (p : Cop) (e f : Dat) : chnB (.ok true) p e (.ok f) = blR (cmpD p e f) := nrfl rfl
@[simp] theorem chnB_f (p : Cop) (e : Dat) (t : Res Dat) : chnB (.ok false) p e t = .ok (.bool false) := nrfl rfl
def chnR (o p : Cop) (r s t : Res Dat) : Res Dat := r >>= fun d => s >>= fun e => chnB (cmpD o d e) p e t
@[simp] theorem chnR_ok (o p : Cop) (d e : Dat) (t : Res Dat) : chnR o p (.ok d) (.ok e) t = chnB (cmpD o d e) p e t := nrfl rfl
def tR (r : Res Dat) : Res Bool := r >>= fun d => truD d
@[simp] theorem tR_ok (d : Dat) : tR (.ok d) = truD d := nrfl rfl
@[simp] theorem tR_x (c : Str) (x : Option Dat) : tR (.exc c x) = .exc c x := nrfl rfl
def ifR (c : Res Bool) (a b : Res Dat) : Res Dat := c >>= fun r => match r with
    | true => a
    | false => b
@[simp] theorem ifR_t (a b : Res Dat) : ifR (.ok true) a b = a := nrfl rfl
@[simp] theorem ifR_f (a b : Res Dat) : ifR (.ok false) a b = b := nrfl rfl
@[simp] theorem ifR_x (c : Str) (x : Option Dat) (a b : Res Dat) : ifR (.exc c x) a b = .exc c x := nrfl rfl
def andR (r s : Res Dat) : Res Dat := r >>= fun d => ifR (truD d) s (.ok d)
@[simp] theorem andR_ok (d : Dat) (s : Res Dat) : andR (.ok d) s = ifR (truD d) s (.ok d) := nrfl rfl
@[simp] theorem andR_x (c : Str) (x : Option Dat) (s : Res Dat) : andR (.exc c x) s = .exc c x := nrfl rfl
def orR (r s : Res Dat) : Res Dat := r >>= fun d => ifR (truD d) (.ok d) s
@[simp] theorem orR_ok (d : Dat) (s : Res Dat) : orR (.ok d) s = ifR (truD d) (.ok d) s := nrfl rfl
@[simp] theorem orR_x (c : Str) (x : Option Dat) (s : Res Dat) : orR (.exc c x) s = .exc c x := nrfl rfl
def notR (r : Res Bool) : Res Dat := r >>= fun r => .ok (.bool (!r))
@[simp] theorem notR_ok (b : Bool) : notR (.ok b) = .ok (.bool (!b)) := nrfl rfl
@[simp] theorem notR_x (c : Str) (x : Option Dat) : notR (.exc c x) = .exc c x := nrfl rfl
def ixR (r s : Res Dat) : Res Dat := r >>= fun d => s >>= fun e => ixD d e
@[simp] theorem ixR_ok (d e : Dat) : ixR (.ok d) (.ok e) = ixD d e := nrfl rfl
def slR (r : Res Dat) (lo hi : Res (Option Int)) : Res Dat := r >>= fun d => lo >>= fun l => hi >>= fun h => slD d l h
@[simp] theorem slR_ok (d : Dat) (l h : Option Int) : slR (.ok d) (.ok l) (.ok h) = slD d l h := nrfl rfl
def tupR (r : Res (List Dat)) : Res Dat := r >>= fun ds => if ds.length ≤ 1000000 then .ok (.tuple ds) else .bad
@[simp] theorem tupR_ok (ds : List Dat) : tupR (.ok ds) = if ds.length ≤ 1000000 then .ok (.tuple ds) else .bad := nrfl rfl
@[simp] theorem tupR_x (c : Str) (x : Option Dat) : tupR (.exc c x) = .exc c x := nrfl rfl
def lstR (r : Res (List Dat)) : Res Dat := r >>= fun ds => if ds.length ≤ 1000000 then .ok (.list ds) else .bad
@[simp] theorem lstR_ok (ds : List Dat) : lstR (.ok ds) = if ds.length ≤ 1000000 then .ok (.list ds) else .bad := nrfl rfl
@[simp] theorem lstR_x (c : Str) (x : Option Dat) : lstR (.exc c x) = .exc c x := nrfl rfl
def calR (F : List Dat → Res Dat) (r : Res (List Dat)) : Res Dat := r >>= fun ds => F ds
@[simp] theorem calR_ok (F : List Dat → Res Dat) (ds : List Dat) : calR F (.ok ds) = F ds := nrfl rfl
def calkR (F : List Dat → Res Dat) (r : Res (List Dat)) (s : Res Dat) : Res Dat := r >>= fun ds => s >>= fun d => F (ds ++ [d])
@[simp] theorem calkR_ok (F : List Dat → Res Dat) (ds : List Dat) (d : Dat) : calkR F (.ok ds) (.ok d) = F (ds ++ [d]) := nrfl rfl
@[simp] theorem calR_x (F : List Dat → Res Dat) (c : Str) (x : Option Dat) : calR F (.exc c x) = .exc c x := nrfl rfl
def biR (f : Bi) (r : Res (List Dat)) : Res Dat := r >>= fun ds => biD f ds
@[simp] theorem biR_ok (f : Bi) (ds : List Dat) : biR f (.ok ds) = biD f ds := nrfl rfl
@[simp] theorem biR_x (f : Bi) (c : Str) (x : Option Dat) : biR f (.exc c x) = .exc c x := nrfl rfl
def isiR (t : Ty) (r : Res Dat) : Res Dat := r >>= fun d => blR (isiD t d)
@[simp] theorem isiR_ok (t : Ty) (d : Dat) : isiR t (.ok d) = blR (isiD t d) := nrfl rfl
def m0R (m : M0) (r : Res Dat) : Res Dat := r >>= fun d => m0D m d
@[simp] theorem m0R_ok (m : M0) (d : Dat) : m0R m (.ok d) = m0D m d := nrfl rfl
def m1R (m : M1) (r s : Res Dat) : Res Dat := r >>= fun d => strD d >>= fun x => s >>= fun e => m1D m (.str x) e
@[simp] theorem m1R_ok (m : M1) (x : Str) (e : Dat) : m1R m (.ok (.str x)) (.ok e) = m1D m (.str x) e := nrfl rfl
def varR (s : Sl) : Res Dat := match s with
    | .fz d => .ok d
    | _ => .bad
@[simp] theorem varR_fz (d : Dat) : varR (.fz d) = .ok d := nrfl rfl
def tvR (s : Sl) : Res Dat := match s with
    | .fz (.list ds) => .ok (.list ds)
    | .ow ds => .ok (.list ds)
    | .ln ds => .ok (.list ds)
    | _ => .bad
@[simp] theorem tvR_fz (ds : List Dat) : tvR (.fz (.list ds)) = .ok (.list ds) := nrfl rfl
@[simp] theorem tvR_ow (ds : List Dat) : tvR (.ow ds) = .ok (.list ds) := nrfl rfl
@[simp] theorem tvR_ln (ds : List Dat) : tvR (.ln ds) = .ok (.list ds) := nrfl rfl
def consR (r : Res Dat) (s : Res (List Dat)) : Res (List Dat) := r >>= fun d => s >>= fun ds => .ok (d :: ds)
@[simp] theorem consR_ok (d : Dat) (ds : List Dat) : consR (.ok d) (.ok ds) = .ok (d :: ds) := nrfl rfl
@[simp] theorem consR_x (c : Str) (x : Option Dat) (s : Res (List Dat)) : consR (.exc c x) s = .exc c x := nrfl rfl
@[simp] theorem consR_y (d : Dat) (c : Str) (x : Option Dat) : consR (.ok d) (.exc c x) = .exc c x := nrfl rfl
def dc1R (r s : Res Dat) : Res Dat := r >>= fun d => strD d >>= fun x => s >>= fun y => .ok (.dict [(.str x, y)])
@[simp] theorem dc1R_ok (x : Str) (y : Dat) : dc1R (.ok (.str x)) (.ok y) = .ok (.dict [(.str x, y)]) := nrfl rfl
def dgetR (r s t : Res Dat) : Res Dat := r >>= fun d => isDct d >>= fun kvs => s >>= fun d => strD d >>= fun x => t >>= fun y => .ok ((lkD kvs x).getD y)
@[simp] theorem dgetR_ok (kvs : List (Dat × Dat)) (x : Str) (y : Dat) : dgetR (.ok (.dict kvs)) (.ok (.str x)) (.ok y) = .ok ((lkD kvs x).getD y) := nrfl rfl
section
variable (P : Pg) (ρ : En) (a b c : E) (es : Es)
@[simp] theorem ev_dc0 : ev P .dc0 ρ = .ok (.dict []) := by simp only [ev]
@[simp] theorem ev_dc1 : ev P (.dc1 a b) ρ = dc1R (ev P a ρ) (ev P b ρ) := by simp only [ev]; rfl
@[simp] theorem ev_dget : ev P (.dget a b c) ρ = dgetR (ev P a ρ) (ev P b ρ) (ev P c ρ) := by simp only [ev]; rfl
@[simp] theorem ev_var (i : Nat) : ev P (.var i) ρ = varR (getS ρ i) := by simp only [ev]; rfl
@[simp] theorem ev_tv (i : Nat) : ev P (.tv i) ρ = tvR (getS ρ i) := by simp only [ev]; rfl
@[simp] theorem ev_non : ev P .non ρ = .ok .none := by simp only [ev]
@[simp] theorem ev_bl (x : Bool) : ev P (.bl x) ρ = .ok (.bool x) := by simp only [ev]
@[simp] theorem ev_int (i : Int) : ev P (.int i) ρ = .ok (.int i) := by simp only [ev]
@[simp] theorem ev_str (x : Str) : ev P (.str x) ρ = .ok (.str x) := by simp only [ev]
@[simp] theorem ev_con (k : Nat) : ev P (.con k) ρ = .ok (P.C k) := by simp only [ev]
@[simp] theorem ev_bin (o : Bop) : ev P (.bin o a b) ρ = binR o (ev P a ρ) (ev P b ρ) := by simp only [ev]; rfl
@[simp] theorem ev_neg : ev P (.neg a) ρ = negR (ev P a ρ) := by simp only [ev]; rfl
@[simp] theorem ev_cmp (o : Cop) : ev P (.cmp o a b) ρ = cmpR o (ev P a ρ) (ev P b ρ) := by simp only [ev]; rfl
@[simp] theorem ev_chn (o p : Cop) : ev P (.chn o p a b c) ρ = chnR o p (ev P a ρ) (ev P b ρ) (ev P c ρ) := by simp only [ev]; rfl
@[simp] theorem ev_and : ev P (.and a b) ρ = andR (ev P a ρ) (ev P b ρ) := by simp only [ev]; rfl
@[simp] theorem ev_or : ev P (.or a b) ρ = orR (ev P a ρ) (ev P b ρ) := by simp only [ev]; rfl
@[simp] theorem ev_not : ev P (.not a) ρ = notR (tR (ev P a ρ)) := by
  simp only [ev]
  cases ev P a ρ <;> rfl
@[simp] theorem ev_ife : ev P (.ife c a b) ρ = ifR (tR (ev P c ρ)) (ev P a ρ) (ev P b ρ) := by
  simp only [ev]
  cases ev P c ρ <;> rfl
@[simp] theorem ev_ix : ev P (.ix a b) ρ = ixR (ev P a ρ) (ev P b ρ) := by simp only [ev]; rfl
@[simp] theorem ev_sl : ev P (.sl a b c) ρ = slR (ev P a ρ) (optE b (ev P b ρ)) (optE c (ev P c ρ)) := by simp only [ev]; rfl
@[simp] theorem ev_tup : ev P (.tup es) ρ = tupR (evs P es ρ) := by simp only [ev]; rfl
@[simp] theorem ev_lst : ev P (.lst es) ρ = lstR (evs P es ρ) := by simp only [ev]; rfl
@[simp] theorem ev_calk (k : Nat) (w : Str) (e : E) : ev P (.calk k es w e) ρ = calkR (P.F k) (evs P es ρ) (ev P e ρ) := by simp only [ev]; rfl
@[simp] theorem ev_cal (k : Nat) : ev P (.cal k es) ρ = calR (P.F k) (evs P es ρ) := by simp only [ev]; rfl
@[simp] theorem ev_bi (f : Bi) : ev P (.bi f es) ρ = biR f (evs P es ρ) := by simp only [ev]; rfl
@[simp] theorem ev_isi (t : Ty) : ev P (.isi t a) ρ = isiR t (ev P a ρ) := by simp only [ev]; rfl
@[simp] theorem ev_nrw (c : Str) : ev P (.nrw c a) ρ = ev P a ρ := by simp only [ev]
@[simp] theorem ev_m0 (m : M0) : ev P (.m0 m a) ρ = m0R m (ev P a ρ) := by simp only [ev]; rfl
@[simp] theorem ev_m1 (m : M1) : ev P (.m1 m a b) ρ = m1R m (ev P a ρ) (ev P b ρ) := by simp only [ev]; rfl
@[simp] theorem evs_nil : evs P .nil ρ = .ok [] := by simp only [evs]
@[simp] theorem evs_cons : evs P (.cons a es) ρ = consR (ev P a ρ) (evs P es ρ) := by simp only [evs]; rfl
end
def itR (r : Res Dat) : Res (List Dat) := r >>= fun d => itemsD d
@[simp] theorem itR_ok (d : Dat) : itR (.ok d) = itemsD d := nrfl rfl
def r1R (r : Res Dat) : Res (List Dat) := r >>= fun d => match d with
    | .int n => if small62 n then .ok (rngL 0 n.toNat) else .bad
    | _ => .bad
theorem small_of {a : Int} (h : -(2 ^ 62) ≤ a) (h' : a < 2 ^ 62) : small62 a = true := decide_eq_true ⟨h, h'⟩
theorem r1R_int {n : Int} (h : -1000000000 ≤ n) (h' : n ≤ 1000000000) : r1R (.ok (.int n)) = .ok ((List.range n.toNat).map fun i : Nat => PyData.int (i : Int)) := by
  have e : r1R (.ok (.int n)) = .ok (rngL 0 n.toNat) := if_pos (small_of (by omega) (by omega))
  rw [e]
  simp only [rngL, Int.zero_add]
theorem r1R_nat {n : Nat} (h : n ≤ 1000000000) : r1R (.ok (.int (n : Int))) = .ok ((List.range n).map fun i : Nat => PyData.int (i : Int)) := by
  have := r1R_int (n := (n : Int)) (by omega) (by omega)
  simpa using this
theorem r1R_nat1 {n : Nat} (h : n ≤ 1000000) : r1R (.ok (.int ((n : Int) + 1))) = .ok ((List.range (n + 1)).map fun i : Nat => PyData.int (i : Int)) := r1R_nat (n := n + 1) (by omega)
def r2R (r s : Res Dat) : Res (List Dat) := r >>= fun d => s >>= fun e => match d, e with
    | .int m, .int n => if small62 m && small62 n then .ok (rngL m (n - m).toNat) else .bad
    | _, _ => .bad
theorem r2R_int {m n : Int} (h : -1000000000 ≤ m) (h' : m ≤ 1000000000) (k : -1000000000 ≤ n) (k' : n ≤ 1000000000) : r2R (.ok (.int m)) (.ok (.int n)) = .ok ((List.range (n - m).toNat).map fun i : Nat => PyData.int (m + (i : Int))) := by
  have e : r2R (.ok (.int m)) (.ok (.int n)) = .ok (rngL m (n - m).toNat) := if_pos (by rw [small_of (by omega) (by omega), small_of (by omega) (by omega)]; rfl)
  rw [e]
  rfl
def lnR (s : Sl) : Res (List Dat) := match s with
    | .ln ds => .ok ds
    | _ => .bad
def owR (s : Sl) : Res (List Dat) := match s with
    | .ow ds => .ok ds
    | _ => .bad
@[simp] theorem owR_ow (ds : List Dat) : owR (.ow ds) = .ok ds := nrfl rfl
@[simp] theorem lnR_ln (ds : List Dat) : lnR (.ln ds) = .ok ds := nrfl rfl
section
variable (P : Pg) (ρ : En) (a b : E)
@[simp] theorem evI_seq : evI P (.seq a) ρ = itR (ev P a ρ) := by simp only [evI]; rfl
@[simp] theorem evI_own (i : Nat) : evI P (.own i) ρ = owR (getS ρ i) := by simp only [evI]; rfl
@[simp] theorem evI_ln (i : Nat) : evI P (.lent i) ρ = lnR (getS ρ i) := by simp only [evI]; rfl
@[simp] theorem evI_r1 : evI P (.rng1 a) ρ = r1R (ev P a ρ) := by simp only [evI]; rfl
@[simp] theorem evI_r2 : evI P (.rng2 a b) ρ = r2R (ev P a ρ) (ev P b ρ) := by simp only [evI]; rfl
end
/-! statements -/
def setR (i : Nat) (r : Res Dat) (ρ : En) : Out := Out.of r fun d => .nx (ρ.set i (.fz d))
@[simp] theorem setR_ok (i : Nat) (d : Dat) (ρ : En) : setR i (.ok d) ρ = .nx (ρ.set i (.fz d)) := nrfl rfl
@[simp] theorem setR_x (i : Nat) (c : Str) (x : Option Dat) (ρ : En) : setR i (.exc c x) ρ = .exc c x := nrfl rfl
def setOR (i : Nat) (r : Res Dat) (ρ : En) : Out := Out.of r fun d => match d with
    | .list ds => .nx (ρ.set i (.ow ds))
    | _ => .bad
@[simp] theorem setOR_ok (i : Nat) (ds : List Dat) (ρ : En) : setOR i (.ok (.list ds)) ρ = .nx (ρ.set i (.ow ds)) := nrfl rfl
@[simp] theorem setOR_x (i : Nat) (c : Str) (x : Option Dat) (ρ : En) : setOR i (.exc c x) ρ = .exc c x := nrfl rfl
def enR (r : Res En) : Out := Out.of r .nx
@[simp] theorem enR_ok (ρ : En) : enR (.ok ρ) = .nx ρ := nrfl rfl
def tupS (is : List Nat) (r : Res Dat) (ρ : En) : Out := Out.of r fun d => enR (setT (.tp is) d ρ)
@[simp] theorem tupS_ok (is : List Nat) (d : Dat) (ρ : En) : tupS is (.ok d) ρ = enR (setT (.tp is) d ρ) := nrfl rfl
@[simp] theorem tupS_x (is : List Nat) (c : Str) (x : Option Dat) (ρ : En) : tupS is (.exc c x) ρ = .exc c x := nrfl rfl
def appR (i : Nat) (s : Sl) (r : Res Dat) (ρ : En) : Out := match s with
    | .ow ds => Out.of r fun d => if ds.length < 1000000 then .nx (ρ.set i (.ow (ds ++ [d]))) else .bad
    | _ => .bad
@[simp] theorem appR_ok (i : Nat) (ds : List Dat) (d : Dat) (ρ : En) : appR i (.ow ds) (.ok d) ρ = if ds.length < 1000000 then .nx (ρ.set i (.ow (ds ++ [d]))) else .bad := nrfl rfl
@[simp] theorem appR_x (i : Nat) (ds : List Dat) (c : Str) (x : Option Dat) (ρ : En) : appR i (.ow ds) (.exc c x) ρ = .exc c x := nrfl rfl
def revR (i : Nat) (s : Sl) (ρ : En) : Out := match s with
    | .ow ds => .nx (ρ.set i (.ow ds.reverse))
    | _ => .bad
@[simp] theorem revR_ok (i : Nat) (ds : List Dat) (ρ : En) : revR i (.ow ds) ρ = .nx (ρ.set i (.ow ds.reverse)) := nrfl rfl
def extR (i : Nat) (s : Sl) (r : Res Dat) (ρ : En) : Out := match s with
    | .ow ds => Out.of r fun d => match d with
      | .list es => if ds.length + es.length < 1000000 then .nx (ρ.set i (.ow (ds ++ es))) else .bad
      | _ => .bad
    | _ => .bad
@[simp] theorem extR_ok (i : Nat) (ds es : List Dat) (ρ : En) : extR i (.ow ds) (.ok (.list es)) ρ = if ds.length + es.length < 1000000 then .nx (ρ.set i (.ow (ds ++ es))) else .bad := nrfl rfl
@[simp] theorem extR_x (i : Nat) (ds : List Dat) (c : Str) (x : Option Dat) (ρ : En) : extR i (.ow ds) (.exc c x) ρ = .exc c x := nrfl rfl
def ifO (c : Res Bool) (P : Pg) (a b : Ss) (ρ : En) : Out := Out.of c fun r => match r with
    | true => exSs P a ρ
    | false => exSs P b ρ
@[simp] theorem ifO_t (P : Pg) (a b : Ss) (ρ : En) : ifO (.ok true) P a b ρ = exSs P a ρ := nrfl rfl
@[simp] theorem ifO_f (P : Pg) (a b : Ss) (ρ : En) : ifO (.ok false) P a b ρ = exSs P b ρ := nrfl rfl
@[simp] theorem ifO_x (P : Pg) (c : Str) (x : Option Dat) (a b : Ss) (ρ : En) : ifO (.exc c x) P a b ρ = .exc c x := nrfl rfl
def retR (r : Res Dat) : Out := Out.of r .ret
@[simp] theorem retR_ok (d : Dat) : retR (.ok d) = .ret d := nrfl rfl
@[simp] theorem retR_x (c : Str) (x : Option Dat) : retR (.exc c x) = .exc c x := nrfl rfl
def rtvR (s : Sl) : Out := match s with
    | .ow ds => .ret (.list ds)
    | _ => .bad
@[simp] theorem rtvR_ok (ds : List Dat) : rtvR (.ow ds) = .ret (.list ds) := nrfl rfl
def expR (r : Res Dat) (ρ : En) : Out := Out.of r fun _ => .nx ρ
@[simp] theorem expR_ok (d : Dat) (ρ : En) : expR (.ok d) ρ = .nx ρ := nrfl rfl
@[simp] theorem expR_x (c : Str) (x : Option Dat) (ρ : En) : expR (.exc c x) ρ = .exc c x := nrfl rfl
@[simp] theorem keepO_some (i : Nat) (ρ : En) (d : Dat) : keepO (some i) ρ d = .nx (ρ.set i (.fz d)) := nrfl rfl
@[simp] theorem keepO_none (ρ : En) (d : Dat) : keepO none ρ d = .nx ρ := nrfl rfl
@[simp] theorem tryO_ok (m : Str → Option Bool) (i : Option Nat) (j : Nat) (ρ : En) (h : Res Dat) (d : Dat) : tryO m i j ρ h (.ok d) = keepO i ρ d := nrfl rfl
/-- what an exception in a try comes to -/
def metO (b : Option Bool) (j : Nat) (ρ : En) (h : Res Dat) (c : Str) (x : Option Dat) : Out := match b with
  | some true => Out.of h fun d => .nx (ρ.set j (.fz d))
  | some false => .exc c x
  | none => .bad
@[simp] theorem tryO_x (m : Str → Option Bool) (i : Option Nat) (j : Nat) (ρ : En) (h : Res Dat) (c : Str) (x : Option Dat) : tryO m i j ρ h (.exc c x) = metO (m c) j ρ h c x := by
  cases h : m c with
  | none => simp only [tryO, metO, h]
  | some b => cases b <;> simp only [tryO, metO, h]
@[simp] theorem metO_t (j : Nat) (ρ : En) (d : Dat) (c : Str) (x : Option Dat) : metO (some true) j ρ (.ok d) c x = .nx (ρ.set j (.fz d)) := nrfl rfl
@[simp] theorem metO_f (j : Nat) (ρ : En) (h : Res Dat) (c : Str) (x : Option Dat) : metO (some false) j ρ h c x = .exc c x := nrfl rfl
/-- what an exception comes to that is asked for its classes -/
def metI (b : Option Bool) (o1 o2 : Option (List Bool)) (i j : Nat) (ρ : En) (c : Str) : Out := match b with
  | some true => match o1, o2 with
    | some b1, some b2 => if i < ρ.length ∧ j < ρ.length ∧ i ≠ j ∧ b1.length + b2.length ≤ 1000 then .nx ((ρ.set j (.fz (.tuple ((b1 ++ b2).map .bool)))).set i .un) else .bad
    | _, _ => .bad
  | some false => .exc c none
  | none => .bad
@[simp] theorem tryIO_ok (m : Str → Option Bool) (f : Str → Str → Option Bool) (i j : Nat) (n1 n2 : List Str) (ρ : En) (d : Dat) : tryIO m f i j n1 n2 ρ (.ok d) = .nx ρ := nrfl rfl
@[simp] theorem tryIO_x (m : Str → Option Bool) (f : Str → Str → Option Bool) (i j : Nat) (n1 n2 : List Str) (ρ : En) (c : Str) : tryIO m f i j n1 n2 ρ (.exc c none) = metI (m c) (isAll (f c) n1) (isAll (f c) n2) i j ρ c := by
  cases h : m c with
  | none => simp only [tryIO, metI, h]
  | some b =>
    cases b with
    | false => simp only [tryIO, metI, h]
    | true => cases h1 : isAll (f c) n1 <;> cases h2 : isAll (f c) n2 <;> simp only [tryIO, metI, h, h1, h2]
@[simp] theorem metI_f (o1 o2 : Option (List Bool)) (i j : Nat) (ρ : En) (c : Str) : metI (some false) o1 o2 i j ρ c = .exc c none := nrfl rfl
@[simp] theorem metI_t (b1 b2 : List Bool) (i j : Nat) (ρ : En) (c : Str) : metI (some true) (some b1) (some b2) i j ρ c = if i < ρ.length ∧ j < ρ.length ∧ i ≠ j ∧ b1.length + b2.length ≤ 1000 then .nx ((ρ.set j (.fz (.tuple ((b1 ++ b2).map .bool)))).set i .un) else .bad := nrfl rfl
/-- what an exception in a try that gives another comes to -/
def metX (b : Option Bool) (d : Str) (s : Sl) (c : Str) (x : Option Dat) : Out := match b with
  | some true => match s with
    | .fz v => .exc d (some v)
    | _ => .bad
  | some false => .exc c x
  | none => .bad
@[simp] theorem tryXO_ok (m : Str → Option Bool) (d : Str) (s : Sl) (v : Dat) : tryXO m d s (.ok v) = .ret v := nrfl rfl
@[simp] theorem tryXO_x (m : Str → Option Bool) (d : Str) (s : Sl) (c : Str) (x : Option Dat) : tryXO m d s (.exc c x) = metX (m c) d s c x := by
  cases h : m c with
  | none => simp only [tryXO, metX, h]
  | some b => cases b <;> cases s <;> simp only [tryXO, metX, h]
@[simp] theorem metX_t (d : Str) (v : Dat) (c : Str) (x : Option Dat) : metX (some true) d (.fz v) c x = .exc d (some v) := nrfl rfl
@[simp] theorem metX_f (d : Str) (s : Sl) (c : Str) (x : Option Dat) : metX (some false) d s c x = .exc c x := nrfl rfl
/-- what an exception comes to that is asked for its row and its classes -/
def metR (b : Option Bool) (o : Option (List Bool)) (i j : Nat) (ρ : En) (c : Str) (d : Dat) : Out := match b with
  | some true => match o with
    | some bs => if i < ρ.length ∧ j < ρ.length ∧ i ≠ j ∧ bs.length ≤ 1000 then .nx ((ρ.set j (.fz (.tuple (d :: bs.map .bool)))).set i .un) else .bad
    | none => .bad
  | some false => .exc c (some d)
  | none => .bad
@[simp] theorem tryRO_ok (m : Str → Option Bool) (f : Str → Str → Option Bool) (i j : Nat) (ns : List (List Str)) (ρ : En) (d : Dat) : tryRO m f i j ns ρ (.ok d) = .nx ρ := nrfl rfl
@[simp] theorem tryRO_x (m : Str → Option Bool) (f : Str → Str → Option Bool) (i j : Nat) (ns : List (List Str)) (ρ : En) (c : Str) (d : Dat) : tryRO m f i j ns ρ (.exc c (some d)) = metR (m c) (isAll (f c) ns.flatten) i j ρ c d := by
  cases h : m c with
  | none => simp only [tryRO, metR, h]
  | some b =>
    cases b with
    | false => simp only [tryRO, metR, h]
    | true => cases h1 : isAll (f c) ns.flatten <;> simp only [tryRO, metR, h, h1]
@[simp] theorem metR_t (bs : List Bool) (i j : Nat) (ρ : En) (c : Str) (d : Dat) : metR (some true) (some bs) i j ρ c d = if i < ρ.length ∧ j < ρ.length ∧ i ≠ j ∧ bs.length ≤ 1000 then .nx ((ρ.set j (.fz (.tuple (d :: bs.map .bool)))).set i .un) else .bad := nrfl rfl
def raisR (c : Str) (r : Res Dat) : Out := Out.of r fun d => .exc c (some d)
@[simp] theorem raisR_ok (c : Str) (d : Dat) : raisR c (.ok d) = .exc c (some d) := nrfl rfl
def seqO (o : Out) (P : Pg) (r : Ss) : Out := o.thn (exSs P r)
@[simp] theorem seqO_nx (P : Pg) (r : Ss) (ρ : En) : seqO (.nx ρ) P r = exSs P r ρ := nrfl rfl
@[simp] theorem seqO_ct (P : Pg) (r : Ss) (ρ : En) : seqO (.ct ρ) P r = .ct ρ := nrfl rfl
@[simp] theorem seqO_ret (P : Pg) (r : Ss) (d : Dat) : seqO (.ret d) P r = .ret d := nrfl rfl
@[simp] theorem seqO_x (P : Pg) (r : Ss) (c : Str) (x : Option Dat) : seqO (.exc c x) P r = .exc c x := nrfl rfl
def frzO (s : Sl) (P : Pg) (i : Nat) (r : Ss) (ρ : En) : Out := match s with
    | .ow ds => exSs P r (ρ.set i (.fz (.list ds)))
    | _ => .bad
@[simp] theorem frzO_ow (P : Pg) (i : Nat) (r : Ss) (ρ : En) (ds : List Dat) : frzO (.ow ds) P i r ρ = exSs P r (ρ.set i (.fz (.list ds))) := nrfl rfl
def tryBR (r : Res Dat) : Out := match r with
  | .ok d => .ret d
  | _ => .bad
@[simp] theorem tryBR_ok (d : Dat) : tryBR (.ok d) = .ret d := nrfl rfl
/-- a reply's parts -/
def retFR (fl : List Bool) (r : Res (List Dat)) : Out := Out.of r fun ds => if ds.length ≤ 1000000 ∧ freshT fl ds = true then .ret (.tuple ds) else .bad
@[simp] theorem retFR_ok (fl : List Bool) (ds : List Dat) : retFR fl (.ok ds) = if ds.length ≤ 1000000 ∧ freshT fl ds = true then .ret (.tuple ds) else .bad := nrfl rfl
@[simp] theorem retFR_x (fl : List Bool) (c : Str) (x : Option Dat) : retFR fl (.exc c x) = .exc c x := nrfl rfl
@[simp] theorem freshT_nil (fl : List Bool) : freshT fl [] = true := by cases fl <;> rfl
@[simp] theorem freshT_cons (b : Bool) (fl : List Bool) (d : Dat) (ds : List Dat) : freshT (b :: fl) (d :: ds) = ((b || !isLst d) && freshT fl ds) := nrfl rfl
@[simp] theorem isLst_str (x : Str) : isLst (.str x) = false := nrfl rfl
@[simp] theorem isLst_int (x : Int) : isLst (.int x) = false := nrfl rfl
@[simp] theorem isLst_bool (x : Bool) : isLst (.bool x) = false := nrfl rfl
@[simp] theorem isLst_none : isLst .none = false := nrfl rfl
@[simp] theorem isLst_tup (ds : List Dat) : isLst (.tuple ds) = false := nrfl rfl
@[simp] theorem isLst_lst (ds : List Dat) : isLst (.list ds) = true := nrfl rfl
def leaseD (r : Res Dat) (P : Pg) (i : Nat) (d : Dat) (k : Nat) (rest : Ss) (ρ : En) : Out := if (leaseK d k && decide (i < ρ.length)) = true then Out.of r fun _ => exSs P rest (ρ.set i .un) else .bad
@[simp] theorem leaseD_ok (a : Dat) (P : Pg) (i : Nat) (d : Dat) (k : Nat) (rest : Ss) (ρ : En) : leaseD (.ok a) P i d k rest ρ = if (leaseK d k && decide (i < ρ.length)) = true then exSs P rest (ρ.set i .un) else .bad := nrfl rfl
def leaseC (b : Res Bool) (P : Pg) (i : Nat) (d : Dat) (k : Nat) (o : E) (rest : Ss) (ρ : En) : Out := Out.of b fun b => match b with
  | true => leaseD (ev P o (ρ.set i (.fz d))) P i d k rest ρ
  | false => exSs P rest (ρ.set i .un)
@[simp] theorem leaseC_t (P : Pg) (i : Nat) (d : Dat) (k : Nat) (o : E) (rest : Ss) (ρ : En) : leaseC (.ok true) P i d k o rest ρ = leaseD (ev P o (ρ.set i (.fz d))) P i d k rest ρ := nrfl rfl
@[simp] theorem leaseC_f (P : Pg) (i : Nat) (d : Dat) (k : Nat) (o : E) (rest : Ss) (ρ : En) : leaseC (.ok false) P i d k o rest ρ = exSs P rest (ρ.set i .un) := nrfl rfl
def leaseB (b : Res Bool) (P : Pg) (i : Nat) (d : Dat) (r c2 : E) (k : Nat) (o : E) (rest : Ss) (ρ : En) : Out := Out.of b fun b => match b with
  | true => retR (ev P r (ρ.set i (.fz d)))
  | false => leaseC (tR (ev P c2 (ρ.set i (.fz d)))) P i d k o rest ρ
@[simp] theorem leaseB_t (P : Pg) (i : Nat) (d : Dat) (r c2 : E) (k : Nat) (o : E) (rest : Ss) (ρ : En) : leaseB (.ok true) P i d r c2 k o rest ρ = retR (ev P r (ρ.set i (.fz d))) := nrfl rfl
@[simp] theorem leaseB_f (P : Pg) (i : Nat) (d : Dat) (r c2 : E) (k : Nat) (o : E) (rest : Ss) (ρ : En) : leaseB (.ok false) P i d r c2 k o rest ρ = leaseC (tR (ev P c2 (ρ.set i (.fz d)))) P i d k o rest ρ := nrfl rfl
def leaseA (r0 : Res Dat) (P : Pg) (i : Nat) (c1 r c2 : E) (k : Nat) (o : E) (rest : Ss) (ρ : En) : Out := Out.of r0 fun d => leaseB (tR (ev P c1 (ρ.set i (.fz d)))) P i d r c2 k o rest ρ
@[simp] theorem leaseA_ok (d : Dat) (P : Pg) (i : Nat) (c1 r c2 : E) (k : Nat) (o : E) (rest : Ss) (ρ : En) : leaseA (.ok d) P i c1 r c2 k o rest ρ = leaseB (tR (ev P c1 (ρ.set i (.fz d)))) P i d r c2 k o rest ρ := nrfl rfl
def lowR (r : Res (List Dat)) (s : Sl) : Out := match s with
    | .ow xs => Out.of r fun ds => if ds.length < 1000000 ∧ freshT [] ds = true then .ret (.tuple (ds ++ [.list xs])) else .bad
    | _ => .bad
@[simp] theorem lowR_ok (ds xs : List Dat) : lowR (.ok ds) (.ow xs) = if ds.length < 1000000 ∧ freshT [] ds = true then .ret (.tuple (ds ++ [.list xs])) else .bad := nrfl rfl
@[simp] theorem freshT_cons0 (d : Dat) (ds : List Dat) : freshT [] (d :: ds) = (!isLst d && freshT [] ds) := nrfl rfl
@[simp] theorem oGet_some (e : E) : (some e).getD E.non = e := nrfl rfl
@[simp] theorem oGet_none : (none : Option E).getD E.non = E.non := nrfl rfl
section
variable (P : Pg) (ρ : En) (e c : E) (i : Nat)
@[simp] theorem exS_retF (fl : List Bool) (es : Es) : exS P (.retF fl es) ρ = retFR fl (evs P es ρ) := by simp only [exS]; rfl
@[simp] theorem exS_retC : exS P (.retC e) ρ = retR (ev P e ρ) := by simp only [exS]; rfl
@[simp] theorem exS_retL (es : Es) : exS P (.retL es i) ρ = lowR (evs P es ρ) (getS ρ i) := by simp only [exS]; rfl
@[simp] theorem exSs_lease (c1 r c2 : E) (k : Nat) (o : Option E) (rest : Ss) : exSs P (.lease i e c1 r c2 k o rest) ρ = leaseA (ev P e ρ) P i c1 r c2 k (o.getD .non) rest ρ := by simp only [exSs]; rfl
@[simp] theorem exS_set : exS P (.set i e) ρ = setR i (ev P e ρ) ρ := by simp only [exS]; rfl
@[simp] theorem exS_setO : exS P (.setO i e) ρ = setOR i (ev P e ρ) ρ := by simp only [exS]; rfl
@[simp] theorem exS_tup (is : List Nat) : exS P (.tup is e) ρ = tupS is (ev P e ρ) ρ := by simp only [exS]; rfl
@[simp] theorem exS_app : exS P (.app i e) ρ = appR i (getS ρ i) (ev P e ρ) ρ := by simp only [exS]; rfl
@[simp] theorem exS_rev : exS P (.rev i) ρ = revR i (getS ρ i) ρ := by simp only [exS]; rfl
@[simp] theorem exS_ext : exS P (.ext i e) ρ = extR i (getS ρ i) (ev P e ρ) ρ := by simp only [exS]; rfl
@[simp] theorem exS_ifs (a b : Ss) : exS P (.ifs c a b) ρ = ifO (tR (ev P c ρ)) P a b ρ := by simp only [exS]; rfl
@[simp] theorem exS_ret : exS P (.ret e) ρ = retR (ev P e ρ) := by simp only [exS]; rfl
@[simp] theorem exS_retO : exS P (.retO e) ρ = retR (ev P e ρ) := by simp only [exS]; rfl
@[simp] theorem exS_retV : exS P (.retV i) ρ = rtvR (getS ρ i) := by simp only [exS]; rfl
@[simp] theorem exS_retN : exS P .retN ρ = .ret .none := by simp only [exS]
@[simp] theorem exS_expr : exS P (.expr e) ρ = expR (ev P e ρ) ρ := by simp only [exS]; rfl
@[simp] theorem exS_pass : exS P .pass ρ = .nx ρ := by simp only [exS]
@[simp] theorem exS_cont : exS P .cont ρ = .ct ρ := by simp only [exS]
@[simp] theorem exS_tryB (c : Str) : exS P (.tryB e c) ρ = tryBR (ev P e ρ) := by simp only [exS]; rfl
@[simp] theorem exS_raisX (c : Str) : exS P (.raisX c e) ρ = raisR c (ev P e ρ) := by simp only [exS]; rfl
@[simp] theorem exS_tryX (c d : Str) : exS P (.tryX e c d i) ρ = tryXO (fun c' => P.X c' c) d (getS ρ i) (ev P e ρ) := by simp only [exS]
@[simp] theorem exS_tryR (c : Str) (j : Nat) (ns : List (List Str)) : exS P (.tryR e c i j ns) ρ = tryRO (fun c' => P.X c' c) P.I i j ns ρ (ev P e ρ) := by simp only [exS]
@[simp] theorem exS_rais (c : Str) : exS P (.rais c) ρ = .exc c none := by simp only [exS]
@[simp] theorem exS_tryI (c : Str) (i j : Nat) (n1 n2 : List Str) : exS P (.tryI e c i j n1 n2) ρ = tryIO (fun c' => P.X c' c) P.I i j n1 n2 ρ (ev P e ρ) := by simp only [exS]
@[simp] theorem exS_tryE (j : Option Nat) (c : Str) (k : Nat) (h : E) : exS P (.tryE j e c k h) ρ = tryO (fun c' => P.X c' c) j k ρ (ev P h ρ) (ev P e ρ) := by simp only [exS]
@[simp] theorem exSs_nil : exSs P .nil ρ = .nx ρ := by simp only [exSs]
@[simp] theorem exSs_cons (s : S) (r : Ss) : exSs P (.cons s r) ρ = seqO (exS P s ρ) P r := by simp only [exSs]; rfl
@[simp] theorem exSs_frz (r : Ss) : exSs P (.frz i r) ρ = frzO (getS ρ i) P i r ρ := by simp only [exSs]; rfl
end
def runO (fr : Bool) (o : Out) : Res Dat := match o with
  | .ret d => .ok d
  | .nx _ => if fr then .bad else .ok .none
  | .exc c x => .exc c x
  | _ => .bad
@[simp] theorem runO_ret (fr : Bool) (d : Dat) : runO fr (.ret d) = .ok d := nrfl rfl
@[simp] theorem runO_nx (ρ : En) : runO false (.nx ρ) = .ok .none := nrfl rfl
@[simp] theorem runO_x (fr : Bool) (c : Str) (x : Option Dat) : runO fr (.exc c x) = .exc c x := nrfl rfl
@[simp] theorem runF_eq (P : Pg) (n : Nat) (ws : List Bool) (fr : Bool) (body : Ss) (ds : List Dat) : runF P n ws fr body ds = runO fr (exSs P body (ins ws ds ++ List.replicate (n - ds.length) .un)) := nrfl rfl
@[simp] theorem getS_zero (s : Sl) (ρ : En) : getS (s :: ρ) 0 = s := nrfl rfl
@[simp] theorem getS_succ (s : Sl) (ρ : En) (i : Nat) : getS (s :: ρ) (i + 1) = getS ρ i := nrfl rfl
@[simp] theorem bin_add (a b : Int) : binD .add (.int a) (.int b) = .ok (.int (a + b)) := nrfl rfl
@[simp] theorem bin_sub (a b : Int) : binD .sub (.int a) (.int b) = .ok (.int (a - b)) := nrfl rfl
theorem bin_mul (a b : Int) (h : -(2 ^ 64) < b ∧ b < 2 ^ 64) : binD .mul (.int a) (.int b) = .ok (.int (a * b)) := if_pos (.inr h)
theorem bin_mul' (a b : Int) (h : -(2 ^ 64) < a ∧ a < 2 ^ 64) : binD .mul (.int a) (.int b) = .ok (.int (a * b)) := if_pos (.inl h)
theorem bin_mod (a b : Int) (h : 0 < b) : binD .mod (.int a) (.int b) = .ok (.int (a % b)) := by
  have e : b ≠ 0 := by omega
  simp only [binD, if_pos e]
  rw [Int.fmod_eq_emod_of_nonneg _ (by omega)]
theorem bin_div (a b : Int) (h : 0 < b) (h' : b < 1073741824) : binD .div (.int a) (.int b) = .ok (.int (a / b)) := by
  have e : b ≠ 0 ∧ b.natAbs < 1073741824 := by omega
  simp only [binD, if_pos e]
  rw [Int.fdiv_eq_ediv_of_nonneg _ (by omega)]
theorem bin_cat (a b : Str) (h : a.length + b.length ≤ 1000000) : binD .add (.str a) (.str b) = .ok (.str (a ++ b)) := if_pos h
theorem bin_tup (a b : List Dat) (h : a.length + b.length ≤ 1000000) : binD .add (.tuple a) (.tuple b) = .ok (.tuple (a ++ b)) := if_pos h
theorem bin_lst (a b : List Dat) (h : a.length + b.length ≤ 1000000) : binD .add (.list a) (.list b) = .ok (.list (a ++ b)) := if_pos h
@[simp] theorem cmp_lt (a b : Int) : cmpD .lt (.int a) (.int b) = .ok (decide (a < b)) := nrfl rfl
@[simp] theorem cmp_le (a b : Int) : cmpD .le (.int a) (.int b) = .ok (decide (a ≤ b)) := nrfl rfl
@[simp] theorem cmp_gt (a b : Int) : cmpD .gt (.int a) (.int b) = .ok (decide (b < a)) := nrfl rfl
@[simp] theorem cmp_ge (a b : Int) : cmpD .ge (.int a) (.int b) = .ok (decide (b ≤ a)) := nrfl rfl
@[simp] theorem shOk_int (a : Int) : shOk (.int a) = true := nrfl rfl
@[simp] theorem shOk_str (a : Str) : shOk (.str a) = true := nrfl rfl
@[simp] theorem shOk_bool (a : Bool) : shOk (.bool a) = true := nrfl rfl
@[simp] theorem shOk_none : shOk .none = true := nrfl rfl
theorem cmpEq (a b : Dat) (h1 : shOk a = true) (h2 : shOk b = true) : cmpD .eq a b = .ok (PyData.eqv a b) := by simp [cmpD, h1, h2]
theorem cmpNe (a b : Dat) (h1 : shOk a = true) (h2 : shOk b = true) : cmpD .ne a b = .ok (!PyData.eqv a b) := by simp [cmpD, h1, h2]
@[simp] theorem eqv_int (a b : Int) : PyData.eqv (.int a) (.int b) = decide (a = b) := by simp [PyData.eqv]; rfl
@[simp] theorem eqv_str (a b : Str) : PyData.eqv (.str a) (.str b) = decide (a = b) := by simp [PyData.eqv]; rfl
@[simp] theorem eqv_bool (a b : Bool) : PyData.eqv (.bool a) (.bool b) = decide (a = b) := by cases a <;> cases b <;> rfl
@[simp] theorem cmp_eqi (a b : Int) : cmpD .eq (.int a) (.int b) = .ok (decide (a = b)) := by rw [cmpEq _ _ rfl rfl, eqv_int]
@[simp] theorem cmp_nei (a b : Int) : cmpD .ne (.int a) (.int b) = .ok (!decide (a = b)) := by rw [cmpNe _ _ rfl rfl, eqv_int]
@[simp] theorem cmp_eqs (a b : Str) : cmpD .eq (.str a) (.str b) = .ok (decide (a = b)) := by rw [cmpEq _ _ rfl rfl, eqv_str]
@[simp] theorem cmp_nes (a b : Str) : cmpD .ne (.str a) (.str b) = .ok (!decide (a = b)) := by rw [cmpNe _ _ rfl rfl, eqv_str]
@[simp] theorem cmp_eqb (a b : Bool) : cmpD .eq (.bool a) (.bool b) = .ok (decide (a = b)) := by rw [cmpEq _ _ rfl rfl, eqv_bool]
@[simp] theorem cmp_neb (a b : Bool) : cmpD .ne (.bool a) (.bool b) = .ok (!decide (a = b)) := by rw [cmpNe _ _ rfl rfl, eqv_bool]

/-! ### lists of texts -/
theorem eqvAll_strs : ∀ a b : List Str, PyData.eqvAll (a.map PyData.str) (b.map PyData.str) = decide (a = b)
  | [], [] => by simp [PyData.eqvAll]
  | [], _ :: _ => by simp [PyData.eqvAll]
  | _ :: _, [] => by simp [PyData.eqvAll]
  | x :: a, y :: b => by
    simp only [List.map_cons, PyData.eqvAll, eqv_str, eqvAll_strs a b, List.cons.injEq]
    by_cases h : x = y <;> by_cases h' : a = b <;> simp [h, h']
theorem eqv_tup_strs (a b : List Str) : PyData.eqv (.tuple (a.map .str)) (.tuple (b.map .str)) = decide (a = b) := by
  simp only [PyData.eqv]
  exact eqvAll_strs a b
theorem depths_strs : ∀ a : List Str, PyData.depthAll (a.map PyData.str) ≤ 1
  | [] => by simp [PyData.depthAll]
  | x :: a => by
    have := depths_strs a
    simp only [List.map_cons, PyData.depthAll, PyData.depth]
    omega
theorem ndcs_strs : ∀ a : List Str, ndcs (a.map PyData.str) = true
  | [] => by simp [ndcs]
  | x :: a => by simp [ndcs, ndc, ndcs_strs a]
theorem shOk_tup_strs (a : List Str) : shOk (.tuple (a.map .str)) = true := by
  have := depths_strs a
  simp only [shOk, ndc, ndcs_strs, PyData.depth, Bool.true_and, decide_eq_true_eq]
  exact decide_eq_true (by omega)
theorem shOk_lst_strs (a : List Str) : shOk (.list (a.map .str)) = true := by
  have := depths_strs a
  simp only [shOk, ndc, ndcs_strs, PyData.depth, Bool.true_and, decide_eq_true_eq]
  exact decide_eq_true (by omega)

/-! ### cuts, places -/
theorem atI_nat {α : Type} (xs : List α) (i : Nat) : atI xs (i : Int) = xs[i]? := by
  unfold atI ixN
  by_cases h : i < xs.length
  · simp [h]
  · simp [h]
theorem sIx_nat (n d k : Nat) : HT.sIx n d (some (k : Int)) = min k n := by
  unfold HT.sIx
  simp only
  rw [if_neg (by omega)]
  rfl
theorem cut_to {α : Type} (xs : List α) (k : Nat) : cutL xs none (some (k : Int)) = xs.take k := by
  unfold cutL
  rw [sIx_nat]
  simp [HT.sIx]
theorem cut_from {α : Type} (xs : List α) (k : Nat) : cutL xs (some (k : Int)) none = xs.drop k := by
  unfold cutL
  rw [sIx_nat]
  show List.take (xs.length - min k xs.length) (List.drop (min k xs.length) xs) = _
  by_cases h : k ≤ xs.length
  · rw [Nat.min_eq_left h, List.take_of_length_le (by simp)]
  · rw [Nat.min_eq_right (by omega)]
    rw [List.drop_of_length_le (by omega : xs.length ≤ k)]
    simp
theorem cut_mid {α : Type} (xs : List α) (j k : Nat) : cutL xs (some (j : Int)) (some (k : Int)) = (xs.drop j).take (k - j) := by
  unfold cutL
  rw [sIx_nat, sIx_nat]
  by_cases h : j ≤ xs.length
  · rw [Nat.min_eq_left h]
    by_cases h2 : k ≤ xs.length
    · rw [Nat.min_eq_left h2]
    · rw [Nat.min_eq_right (by omega)]
      rw [List.take_of_length_le (by simp), List.take_of_length_le (by simp; omega)]
  · rw [Nat.min_eq_right (by omega : xs.length ≤ j), List.drop_of_length_le (by omega : xs.length ≤ j)]
    simp

/-! ### loops -/
theorem lcL_map {f : Dat → Res (Option Dat)} {α : Type} {e : α → Dat} {g : α → Dat} : ∀ (xs : List α), (∀ x ∈ xs, f (e x) = .ok (some (g x))) → lcL f (xs.map e) = .ok (xs.map g)
  | [], _ => rfl
  | x :: xs, h => by
    simp only [List.map_cons, lcL]
    rw [h x (by simp), lcL_map xs fun y hy => h y (by simp [hy])]
    rfl
theorem lcL_filter {f : Dat → Res (Option Dat)} {α : Type} {e : α → Dat} {g : α → Dat} {p : α → Bool} : ∀ (xs : List α), (∀ x ∈ xs, f (e x) = .ok (if p x then some (g x) else none)) → lcL f (xs.map e) = .ok ((xs.filter p).map g)
  | [], _ => rfl
  | x :: xs, h => by
    simp only [List.map_cons, lcL]
    rw [h x (by simp), lcL_filter xs fun y hy => h y (by simp [hy])]
    cases hp : p x <;> simp [hp]
/-- a loop, by what holds ahead of the turns that are left -/
theorem forL_rule {tmp : List Nat} {f : Dat → En → Out} {Q : Out → Prop} {α : Type} {e : α → Dat} (I : List α → En → Prop) : ∀ (xs : List α) (ρ : En), I xs (unS tmp ρ) → (∀ ρ, I [] ρ → Q (.nx ρ)) →
    (∀ x xs ρ, I (x :: xs) ρ → match f (e x) ρ with
      | .nx ρ' => I xs (unS tmp ρ')
      | .ct ρ' => I xs (unS tmp ρ')
      | o => Q o) → Q (forL tmp f (xs.map e) ρ)
  | [], ρ, h, h0, _ => h0 _ h
  | x :: xs, ρ, h, h0, h1 => by
    simp only [List.map_cons, forL]
    have := h1 x xs _ h
    cases q : f (e x) (unS tmp ρ) with
    | nx ρ' => rw [q] at this; exact forL_rule I xs ρ' this h0 h1
    | ct ρ' => rw [q] at this; exact forL_rule I xs ρ' this h0 h1
    | ret d => rw [q] at this; exact this
    | exc c x => rw [q] at this; exact this
    | bad => rw [q] at this; exact this
/-- a loop that folds -/
theorem forL_fold {tmp : List Nat} {f : Dat → En → Out} {α β : Type} {e : α → Dat} (st : β → En) (g : β → α → β) (I : List α → β → Prop) : ∀ (xs : List α) (b : β) (ρ : En), I xs b → unS tmp ρ = st b →
    (∀ b x rest, x ∈ xs → I (x :: rest) b → I rest (g b x) ∧ ∃ ρ', (f (e x) (st b) = .nx ρ' ∨ f (e x) (st b) = .ct ρ') ∧ unS tmp ρ' = st (g b x)) → forL tmp f (xs.map e) ρ = .nx (st (xs.foldl g b)) ∧ I [] (xs.foldl g b)
  | [], b, ρ, hi, h, _ => ⟨by simp only [List.map_nil, forL, h, List.foldl_nil], hi⟩
  | x :: xs, b, ρ, hi, h, h1 => by
    simp only [List.map_cons, forL, h, List.foldl_cons]
    obtain ⟨hi', ρ', hq, hu⟩ := h1 b x xs (by simp) hi
    have z := forL_fold st g I xs (g b x) ρ' hi' hu fun b y rest hy => h1 b y rest (by simp [hy])
    rcases hq with hq | hq
    · rw [hq]; exact z
    · rw [hq]; exact z
/-- a loop that looks for one, else changes nothing -/
theorem forL_any {tmp : List Nat} {f : Dat → En → Out} {α : Type} {e : α → Dat} (p : α → Bool) (d : Dat) (ρ0 : En) : ∀ (xs : List α) (ρ : En), unS tmp ρ = ρ0 →
    (∀ x ∈ xs, if p x then f (e x) ρ0 = .ret d else ∃ ρ', (f (e x) ρ0 = .nx ρ' ∨ f (e x) ρ0 = .ct ρ') ∧ unS tmp ρ' = ρ0) → forL tmp f (xs.map e) ρ = cond (xs.any p) (.ret d) (.nx ρ0)
  | [], ρ, h, _ => by simp only [List.map_nil, forL, h, List.any_nil]; rfl
  | x :: xs, ρ, h, h1 => by
    simp only [List.map_cons, forL, h, List.any_cons]
    have hx := h1 x (by simp)
    by_cases hp : p x = true
    · rw [if_pos hp] at hx; rw [hx, hp]; rfl
    · rw [if_neg hp] at hx
      rw [Bool.not_eq_true] at hp
      rw [hp, Bool.false_or]
      obtain ⟨ρ', hq, hu⟩ := hx
      have z := forL_any p d ρ0 xs ρ' hu fun y hy => h1 y (by simp [hy])
      rcases hq with hq | hq
      · rw [hq]; exact z
      · rw [hq]; exact z

/-! .. of the terms -/
theorem for_fold {P : Pg} {tmp : List Nat} {tg : Tg} {it : It} {body : Ss} {ρ : En} {α β : Type} (e : α → Dat) (xs : List α) (st : β → En) (g : β → α → β) (I : List α → β → Prop) (b : β) (hi : evI P it ρ = .ok (xs.map e)) (h0 : I xs b) (hu : unS tmp ρ = st b)
    (h : ∀ b x rest, x ∈ xs → I (x :: rest) b → I rest (g b x) ∧ ∃ ρ1 ρ', setT tg (e x) (st b) = .ok ρ1 ∧ (exSs P body ρ1 = .nx ρ' ∨ exSs P body ρ1 = .ct ρ') ∧ unS tmp ρ' = st (g b x)) :
    exS P (.for_ tmp tg it body) ρ = .nx (st (xs.foldl g b)) ∧ I [] (xs.foldl g b) := by
  simp only [exS, hi, out_ok]
  refine forL_fold st g I xs b ρ h0 hu fun b x rest hx hb => ?_
  obtain ⟨h1, ρ1, ρ', h2, h3, h4⟩ := h b x rest hx hb
  refine ⟨h1, ρ', ?_, h4⟩
  rw [h2]
  exact h3
theorem for_any {P : Pg} {tmp : List Nat} {tg : Tg} {it : It} {body : Ss} {ρ : En} {α : Type} (e : α → Dat) (xs : List α) (p : α → Bool) (d : Dat) (ρ0 : En) (hi : evI P it ρ = .ok (xs.map e)) (hu : unS tmp ρ = ρ0)
    (h : ∀ x ∈ xs, ∃ ρ1, setT tg (e x) ρ0 = .ok ρ1 ∧ if p x then exSs P body ρ1 = .ret d else ∃ ρ', (exSs P body ρ1 = .nx ρ' ∨ exSs P body ρ1 = .ct ρ') ∧ unS tmp ρ' = ρ0) :
    exS P (.for_ tmp tg it body) ρ = cond (xs.any p) (.ret d) (.nx ρ0) := by
  simp only [exS, hi, out_ok]
  refine forL_any p d ρ0 xs ρ hu fun x hx => ?_
  obtain ⟨ρ1, h2, h3⟩ := h x hx
  rw [h2]
  exact h3
theorem for_rule {P : Pg} {tmp : List Nat} {tg : Tg} {it : It} {body : Ss} {ρ : En} {Q : Out → Prop} {α : Type} (e : α → Dat) (I : List α → En → Prop) (xs : List α) (hi : evI P it ρ = .ok (xs.map e)) (h0 : I xs (unS tmp ρ)) (hn : ∀ ρ, I [] ρ → Q (.nx ρ))
    (h : ∀ x xs ρ, I (x :: xs) ρ → ∃ ρ1, setT tg (e x) ρ = .ok ρ1 ∧ match exSs P body ρ1 with
      | .nx ρ' => I xs (unS tmp ρ')
      | .ct ρ' => I xs (unS tmp ρ')
      | o => Q o) : Q (exS P (.for_ tmp tg it body) ρ) := by
  simp only [exS, hi, out_ok]
  refine forL_rule I xs ρ h0 hn fun x xs ρ hx => ?_
  obtain ⟨ρ1, h2, h3⟩ := h x xs ρ hx
  rw [h2]
  exact h3
theorem lc_map {P : Pg} {own : List Nat} {tg : Tg} {it : It} {tt elt : E} {ρ : En} {α : Type} (e : α → Dat) (g : α → Dat) (xs : List α) (hi : evI P it ρ = .ok (xs.map e)) (hl : xs.length ≤ 1000000)
    (h : ∀ x ∈ xs, ∃ ρ1, setT tg (e x) (unS own ρ) = .ok ρ1 ∧ (ev P tt ρ1 >>= fun t => truD t) = .ok true ∧ ev P elt ρ1 = .ok (g x)) :
    ev P (.lc own tg it tt elt) ρ = .ok (.list (xs.map g)) := by
  simp only [ev, hi, ok_bind, List.length_map, hl, if_true]
  rw [lcL_map (g := g) xs fun x hx => ?_]
  · rfl
  · obtain ⟨ρ1, h1, h2, h3⟩ := h x hx
    rw [h1]
    simp only [ok_bind]
    cases q : ev P tt ρ1 with
    | ok t => rw [q] at h2; simp only [ok_bind] at h2; simp only [ok_bind, h2, h3, noX_ok]
    | exc c z => rw [q] at h2; cases h2
    | bad => rw [q] at h2; cases h2
theorem lc_filter {P : Pg} {own : List Nat} {tg : Tg} {it : It} {tt elt : E} {ρ : En} {α : Type} (e : α → Dat) (g : α → Dat) (p : α → Bool) (xs : List α) (hi : evI P it ρ = .ok (xs.map e)) (hl : xs.length ≤ 1000000)
    (h : ∀ x ∈ xs, ∃ ρ1, setT tg (e x) (unS own ρ) = .ok ρ1 ∧ (ev P tt ρ1 >>= fun t => truD t) = .ok (p x) ∧ (p x = true → ev P elt ρ1 = .ok (g x))) :
    ev P (.lc own tg it tt elt) ρ = .ok (.list ((xs.filter p).map g)) := by
  simp only [ev, hi, ok_bind, List.length_map, hl, if_true]
  rw [lcL_filter (g := g) (p := p) xs fun x hx => ?_]
  · rfl
  · obtain ⟨ρ1, h1, h2, h3⟩ := h x hx
    rw [h1]
    simp only [ok_bind]
    cases q : ev P tt ρ1 with
    | ok t =>
      rw [q] at h2
      simp only [ok_bind] at h2
      simp only [ok_bind, h2]
      cases hp : p x with
      | true => simp only [h3 hp, ok_bind, noX_ok]; rfl
      | false => rfl
    | exc c z => rw [q] at h2; cases h2
    | bad => rw [q] at h2; cases h2
/-- a loop, by a state of one's own -/
theorem forL_st {tmp : List Nat} {f : Dat → En → Out} {α β : Type} {e : α → Dat} (st : β → En) (I : List α → β → Prop) (Q : Out → Prop) : ∀ (xs : List α) (b : β) (ρ : En), I xs b → unS tmp ρ = st b → (∀ b, I [] b → Q (.nx (st b))) →
    (∀ x rest b, I (x :: rest) b → (∃ b' ρ', (f (e x) (st b) = .nx ρ' ∨ f (e x) (st b) = .ct ρ') ∧ unS tmp ρ' = st b' ∧ I rest b') ∨ (∃ d, f (e x) (st b) = .ret d ∧ Q (.ret d)) ∨ (∃ c z, f (e x) (st b) = .exc c z ∧ Q (.exc c z))) → Q (forL tmp f (xs.map e) ρ)
  | [], b, ρ, hi, h, hn, _ => by simp only [List.map_nil, forL, h]; exact hn b hi
  | x :: xs, b, ρ, hi, h, hn, h1 => by
    simp only [List.map_cons, forL, h]
    rcases h1 x xs b hi with ⟨b', ρ', hq, hu, hi'⟩ | ⟨d, hq, hQ⟩ | ⟨c, z, hq, hQ⟩
    · have z := forL_st st I Q xs b' ρ' hi' hu hn h1
      rcases hq with hq | hq
      · rw [hq]; exact z
      · rw [hq]; exact z
    · rw [hq]; exact hQ
    · rw [hq]; exact hQ
theorem for_st {P : Pg} {tmp : List Nat} {tg : Tg} {it : It} {body : Ss} {ρ : En} {α β : Type} (e : α → Dat) (xs : List α) (st : β → En) (I : List α → β → Prop) (Q : Out → Prop) (b : β) (hi : evI P it ρ = .ok (xs.map e)) (h0 : I xs b) (hu : unS tmp ρ = st b) (hn : ∀ b, I [] b → Q (.nx (st b)))
    (h : ∀ x rest b, I (x :: rest) b → ∃ ρ1, setT tg (e x) (st b) = .ok ρ1 ∧ ((∃ b' ρ', (exSs P body ρ1 = .nx ρ' ∨ exSs P body ρ1 = .ct ρ') ∧ unS tmp ρ' = st b' ∧ I rest b') ∨ (∃ d, exSs P body ρ1 = .ret d ∧ Q (.ret d)) ∨ (∃ c z, exSs P body ρ1 = .exc c z ∧ Q (.exc c z)))) :
    Q (exS P (.for_ tmp tg it body) ρ) := by
  simp only [exS, hi, out_ok]
  refine forL_st st I Q xs b ρ h0 hu hn fun x rest b hb => ?_
  obtain ⟨ρ1, h2, h3⟩ := h x rest b hb
  rw [h2]
  exact h3
theorem whil_st {P : Pg} {tmp : List Nat} {fuel : En → Nat} {c : E} {body : Ss} {ρ : En} {β : Type} (st : β → En) (I : β → Prop) (m : β → Nat) (Q : Out → Prop) (b : β) (h0 : I b) (hu : unS tmp ρ = st b) (hf : m b < fuel ρ)
    (h : ∀ b, I b → (tR (ev P c (st b)) = .ok false ∧ Q (.nx (st b))) ∨ (tR (ev P c (st b)) = .ok true ∧ ((∃ b' ρ', (exSs P body (st b) = .nx ρ' ∨ exSs P body (st b) = .ct ρ') ∧ unS tmp ρ' = st b' ∧ I b' ∧ m b' < m b) ∨ (∃ d, exSs P body (st b) = .ret d ∧ Q (.ret d)) ∨ (∃ c z, exSs P body (st b) = .exc c z ∧ Q (.exc c z))))) :
    Q (exS P (.whil fuel tmp c body) ρ) := by
  simp only [exS]
  generalize fuel ρ = n at hf
  induction n generalizing b ρ with
  | zero => omega
  | succ n ih =>
    simp only [whilL, hu]
    rcases h b h0 with ⟨q, hQ⟩ | ⟨q, hs⟩
    · have q' : (ev P c (st b) >>= fun d => truD d) = .ok false := q
      rw [q']
      exact hQ
    · have q' : (ev P c (st b) >>= fun d => truD d) = .ok true := q
      rw [q']
      simp only [out_ok]
      rcases hs with ⟨b', ρ', hq, hu', hi', hm⟩ | ⟨d, hq, hQ⟩ | ⟨c, z, hq, hQ⟩
      · have z := ih b' hi' hu' (by omega)
        rcases hq with hq | hq
        · rw [hq]; exact z
        · rw [hq]; exact z
      · rw [hq]; exact hQ
      · rw [hq]; exact hQ
def foundO {α : Type} (d : α → Dat) (ρ0 : En) : Option α → Out
  | some x => .ret (d x)
  | none => .nx ρ0
@[simp] theorem foundO_some {α : Type} (d : α → Dat) (ρ0 : En) (x : α) : foundO d ρ0 (some x) = .ret (d x) := nrfl rfl
@[simp] theorem foundO_none {α : Type} (d : α → Dat) (ρ0 : En) : foundO d ρ0 none = .nx ρ0 := nrfl rfl
/-- a loop that gives the first that fits -/
theorem for_find {P : Pg} {tmp : List Nat} {tg : Tg} {it : It} {body : Ss} {ρ : En} {α : Type} (e : α → Dat) (xs : List α) (p : α → Bool) (d : α → Dat) (ρ0 : En) (hi : evI P it ρ = .ok (xs.map e)) (hu : unS tmp ρ = ρ0)
    (h : ∀ x ∈ xs, ∃ ρ1, setT tg (e x) ρ0 = .ok ρ1 ∧ (p x = true → exSs P body ρ1 = .ret (d x)) ∧ (p x = false → ∃ ρ', (exSs P body ρ1 = .nx ρ' ∨ exSs P body ρ1 = .ct ρ') ∧ unS tmp ρ' = ρ0)) :
    exS P (.for_ tmp tg it body) ρ = foundO d ρ0 (xs.find? p) := by
  simp only [exS, hi, out_ok]
  clear hi
  induction xs generalizing ρ with
  | nil => simp only [List.map_nil, forL, hu, List.find?_nil, foundO]
  | cons x xs ih =>
    simp only [List.map_cons, forL, hu]
    obtain ⟨ρ1, h1, h2, h3⟩ := h x (by simp)
    rw [h1]
    simp only [out_ok]
    cases hp : p x with
    | true =>
      rw [h2 hp, List.find?_cons_of_pos hp]
      rfl
    | false =>
      obtain ⟨ρ', hq, hu'⟩ := h3 hp
      rw [List.find?_cons_of_neg (by simp [hp])]
      have z := ih hu' fun y hy => h y (by simp [hy])
      rcases hq with hq | hq
      · rw [hq]; exact z
      · rw [hq]; exact z
/-- a loop that leaves nothing behind -/
theorem for_nop {P : Pg} {tmp : List Nat} {tg : Tg} {it : It} {body : Ss} {ρ ρ0 : En} {α : Type} (e : α → Dat) (xs : List α) (hi : evI P it ρ = .ok (xs.map e)) (hu : unS tmp ρ = ρ0)
    (h : ∀ x ∈ xs, ∃ ρ1, setT tg (e x) ρ0 = .ok ρ1 ∧ ∃ ρ', (exSs P body ρ1 = .nx ρ' ∨ exSs P body ρ1 = .ct ρ') ∧ unS tmp ρ' = ρ0) : exS P (.for_ tmp tg it body) ρ = .nx ρ0 := by
  have z := for_any (P := P) (body := body) e xs (fun _ => false) .none ρ0 hi hu fun x hx => by
    obtain ⟨ρ1, h1, h2⟩ := h x hx
    exact ⟨ρ1, h1, by rw [if_neg Bool.false_ne_true]; exact h2⟩
  have e : xs.any (fun _ => false) = false := by simp
  rw [e] at z
  exact z
end NW
end

section
set_option maxHeartbeats 4000000
/-! Texts as lists of signs; more of plain maths. -/
namespace NW
open PySem PySem.Spec PyProof.Rows L2
theorem rngL_map (a : Int) (n : Nat) : rngL a n = (List.range n).map fun i => PyData.int (a + (i : Nat)) := rfl
theorem cut_map {α β : Type} (f : α → β) (xs : List α) (lo hi : Option Int) : cutL (xs.map f) lo hi = (cutL xs lo hi).map f := by
  simp [cutL, List.map_take, List.map_drop]
theorem atI_some {α : Type} (xs : List α) (i : Int) (d : α) (h : 0 ≤ i) (h' : i < xs.length) : atI xs i = some (xs.getD i.toNat d) := by
  obtain ⟨n, rfl⟩ := Int.eq_ofNat_of_zero_le h
  rw [atI_nat]
  have hn : n < xs.length := by omega
  simp [hn]
theorem str_ext {a b : Str} (h : a.cps.toList = b.cps.toList) : a = b := by
  cases a; cases b
  simp at h
  simp [h]
theorem str_cat (a b : Str) : (a ++ b).cps.toList = a.cps.toList ++ b.cps.toList := by
  show (a.cps ++ b.cps).toList = _
  simp
theorem str_len (a : Str) : a.length = a.cps.toList.length := by
  simp [Str.length]
theorem str_cat_len (a b : Str) : (a ++ b).length = a.length + b.length := by
  simp [str_len, str_cat]
/-- a text of signs -/
def tx (l : List Nat) : Str := ⟨l.toArray⟩
@[simp] theorem tx_list (l : List Nat) : (tx l).cps.toList = l := rfl
@[simp] theorem tx_len (l : List Nat) : (tx l).length = l.length := by simp [str_len]
theorem tx_cat (a b : List Nat) : tx a ++ tx b = tx (a ++ b) := str_ext (by simp [str_cat])
theorem tx_of (s : Str) : tx s.cps.toList = s := str_ext rfl
theorem tx_inj {a b : List Nat} (h : tx a = tx b) : a = b := by
  have := congrArg (fun s : Str => s.cps.toList) h
  simpa using this
theorem cutS_tx (l : List Nat) (lo hi : Option Int) : cutS (tx l) lo hi = tx (cutL l lo hi) := by
  unfold cutS cutL
  simp only [tx_len, tx_list]
  rfl
theorem sIx_neg (n d k : Nat) (h : 0 < k) : HT.sIx n d (some (-(k : Int))) = n - k := by
  unfold HT.sIx
  simp only
  rw [if_pos (by omega)]
  omega
theorem cut_toneg {α : Type} (xs : List α) (k : Nat) (h : 0 < k) : cutL xs none (some (-(k : Int))) = xs.take (xs.length - k) := by
  unfold cutL
  rw [sIx_neg _ _ _ h]
  simp [HT.sIx]
theorem cut_from1 {α : Type} (xs : List α) (k : Nat) : cutL xs (some ((k : Int) + 1)) none = xs.drop (k + 1) := cut_from xs (k + 1)
theorem cut_mid1 {α : Type} (xs : List α) (j k : Nat) : cutL xs (some (j : Int)) (some ((k : Int) + 1)) = (xs.drop j).take (k + 1 - j) := cut_mid xs j (k + 1)
theorem atI_nat1 {α : Type} (xs : List α) (i : Nat) : atI xs ((i : Int) + 1) = xs[i + 1]? := atI_nat xs (i + 1)

/-! ### data that tell their things -/
structure Enc {α : Type} [DecidableEq α] (e : α → Dat) (k : Nat) : Prop where
  eqv : ∀ a b, PyData.eqv (e a) (e b) = decide (a = b)
  ndc : ∀ a, ndc (e a) = true
  dep : ∀ a, PyData.depth (e a) ≤ k
section
variable {α : Type} [DecidableEq α] {e : α → Dat} {k : Nat}
theorem Enc.sh (E : Enc e k) (h : k ≤ 100) (a : α) : shOk (e a) = true := by
  have := E.dep a
  simp only [shOk, E.ndc a, Bool.true_and]
  exact decide_eq_true (by omega)
theorem Enc.eq (E : Enc e k) (h : k ≤ 100) (a b : α) : cmpD .eq (e a) (e b) = .ok (decide (a = b)) := by rw [cmpEq _ _ (E.sh h a) (E.sh h b), E.eqv]
theorem Enc.ne (E : Enc e k) (h : k ≤ 100) (a b : α) : cmpD .ne (e a) (e b) = .ok (!decide (a = b)) := by rw [cmpNe _ _ (E.sh h a) (E.sh h b), E.eqv]
theorem Enc.all (E : Enc e k) : ∀ a b : List α, PyData.eqvAll (a.map e) (b.map e) = decide (a = b)
  | [], [] => by simp [PyData.eqvAll]
  | [], _ :: _ => by simp [PyData.eqvAll]
  | _ :: _, [] => by simp [PyData.eqvAll]
  | x :: a, y :: b => by
    simp only [List.map_cons, PyData.eqvAll, E.eqv, E.all a b, List.cons.injEq]
    by_cases h : x = y <;> by_cases h' : a = b <;> simp [h, h']
theorem Enc.deps (E : Enc e k) : ∀ a : List α, PyData.depthAll (a.map e) ≤ k
  | [] => by simp [PyData.depthAll]
  | x :: a => by
    have h1 := E.deps a
    have h2 := E.dep x
    simp only [List.map_cons, PyData.depthAll]
    omega
theorem Enc.ndcs (E : Enc e k) : ∀ a : List α, NW.ndcs (a.map e) = true
  | [] => by simp [NW.ndcs]
  | x :: a => by simp [NW.ndcs, E.ndc x, E.ndcs a]
theorem Enc.lst (E : Enc e k) : Enc (fun a : List α => PyData.list (a.map e)) (k + 1) :=
  ⟨fun a b => by simp only [PyData.eqv]; exact E.all a b, fun a => by simp only [NW.ndc]; exact E.ndcs a, fun a => by
    have := E.deps a
    simp only [PyData.depth]
    omega⟩
theorem Enc.tup (E : Enc e k) : Enc (fun a : List α => PyData.tuple (a.map e)) (k + 1) :=
  ⟨fun a b => by simp only [PyData.eqv]; exact E.all a b, fun a => by simp only [NW.ndc]; exact E.ndcs a, fun a => by
    have := E.deps a
    simp only [PyData.depth]
    omega⟩
theorem Enc.inD (E : Enc e k) (x : α) : ∀ xs : List α, [i : Decidable (x ∈ xs)] → NW.inD (e x) (xs.map e) = @decide (x ∈ xs) i
  | [], i => by simp [NW.inD]
  | y :: ys, i => by
    simp only [List.map_cons, NW.inD, E.eqv, E.inD x ys]
    by_cases h : x = y
    · subst h; simp
    · have : ¬ y = x := fun z => h z.symm
      simp [h, this]
theorem Enc.isin (E : Enc e k) (h : k + 1 ≤ 100) (x : α) (xs : List α) [i : Decidable (x ∈ xs)] : cmpD .isin (e x) (.list (xs.map e)) = .ok (@decide (x ∈ xs) i) := by
  have h1 := E.sh (by omega) x
  have h2 := E.lst.sh h xs
  simp only [cmpD, inB]
  rw [h1, h2, E.inD]
  rfl
theorem Enc.nin (E : Enc e k) (h : k + 1 ≤ 100) (x : α) (xs : List α) [i : Decidable (x ∈ xs)] : cmpD .nin (e x) (.list (xs.map e)) = .ok (!@decide (x ∈ xs) i) := by
  have h1 := E.sh (by omega) x
  have h2 := E.lst.sh h xs
  simp only [cmpD, inB]
  rw [h1, h2, E.inD]
  rfl
end
theorem encS : Enc PyData.str 0 := ⟨fun a b => eqv_str a b, fun _ => rfl, fun _ => by simp [PyData.depth]⟩
theorem encI : Enc PyData.int 0 := ⟨fun a b => eqv_int a b, fun _ => rfl, fun _ => by simp [PyData.depth]⟩
theorem encN : Enc (fun a : List Str => PyData.tuple (a.map .str)) 1 := encS.tup

/-! ### numbers written -/
def numS (i : Int) : Str := Str.ofString (toString i)
theorem num_len (i : Int) (k : Nat) (h0 : 0 ≤ i) (hk : 0 < k) (h : i.toNat < 10 ^ k) : (numS i).length ≤ k := by
  unfold numS
  obtain ⟨n, rfl⟩ := Int.eq_ofNat_of_zero_le h0
  have h' : n < 10 ^ k := by simpa using h
  have e : (Str.ofString (toString (n : Int))).cps.toList = (Nat.toDigits 10 n).map Char.toNat := PySem.W.KIN.signs_num n
  rw [str_len, e, List.length_map]
  exact (Nat.length_toDigits_le_iff (by decide) hk).2 h'
theorem bi_str (i : Int) (h0 : 0 ≤ i) (h : i < 10 ^ 40) : biD .str [.int i] = .ok (.str (numS i)) := by
  unfold numS
  have hl : i.natAbs.log2 < 1920 := by
    by_cases z : i.natAbs = 0
    · rw [z]; decide
    · have : i.natAbs < 2 ^ 140 := by
        have e : (10 : Int) ^ 40 ≤ 2 ^ 140 := by decide +kernel
        omega
      exact Nat.lt_trans ((Nat.log2_lt z).2 this) (by decide)
  simp only [biD, if_pos hl]
theorem pow_30 : binD .pow (.int 10) (.int 30) = .ok (.int 1000000000000000000000000000000) := by
  simp only [binD]
  rw [if_pos (by decide)]
  rfl
theorem pow_9 : binD .pow (.int 10) (.int 9) = .ok (.int 1000000000) := by
  simp only [binD]
  rw [if_pos (by decide)]
  rfl
theorem bi_str30 (c : Int) : biD .str [.int (c % 1000000000000000000000000000000)] = .ok (.str (numS (c % 1000000000000000000000000000000))) := bi_str _ (by omega) (by
  have : (1000000000000000000000000000000 : Int) ≤ 10 ^ 40 := by decide +kernel
  omega)
theorem num_len30 (c : Int) : (numS (c % 1000000000000000000000000000000)).length ≤ 40 := num_len _ 40 (by omega) (by decide) (by
  have : (1000000000000000000000000000000 : Nat) ≤ 10 ^ 40 := by decide +kernel
  omega)
theorem depthAll_le {k : Nat} : ∀ ds : List Dat, (∀ d ∈ ds, PyData.depth d ≤ k) → PyData.depthAll ds ≤ k
  | [], _ => by simp [PyData.depthAll]
  | d :: ds, h => by
    have h1 := depthAll_le ds fun x hx => h x (by simp [hx])
    have h2 := h d (by simp)
    simp only [PyData.depthAll]
    omega
theorem depth_tup {k : Nat} (ds : List Dat) (h : ∀ d ∈ ds, PyData.depth d ≤ k) : PyData.depth (.tuple ds) ≤ k + 1 := by
  have := depthAll_le ds h
  simp only [PyData.depth]
  omega
theorem depth_lst {k : Nat} (ds : List Dat) (h : ∀ d ∈ ds, PyData.depth d ≤ k) : PyData.depth (.list ds) ≤ k + 1 := by
  have := depthAll_le ds h
  simp only [PyData.depth]
  omega
end NW
end

section
set_option maxHeartbeats 4000000
/-! Texts made small or great, cut at a sign. -/
namespace NW
open PySem PySem.Spec PyProof.Rows L2
def lowN (c : Nat) : Nat := if 65 ≤ c ∧ c ≤ 90 then c + 32 else c
def upN (c : Nat) : Nat := if 97 ≤ c ∧ c ≤ 122 then c - 32 else c
theorem lowOf_ascii (c : Nat) (h : c < 128) : Unicode.lowerOf c = [lowN c] := (by decide +kernel : ∀ c, c < 128 → Unicode.lowerOf c = [lowN c]) c h
theorem upOf_ascii (c : Nat) (h : c < 128) : Unicode.upperOf c = [upN c] := (by decide +kernel : ∀ c, c < 128 → Unicode.upperOf c = [upN c]) c h
theorem flat_one (g : Nat → Nat) : ∀ l : List Nat, (l.map fun c => [g c]).flatten = l.map g
  | [] => rfl
  | c :: l => by simp [flat_one g l]
theorem placed_map (l : List Nat) (f : Nat → Nat → List Nat) (g : Nat → Nat) (h : ∀ i c, l[i]? = some c → f i c = [g c]) : (⟨placed (tx l) f⟩ : Str) = tx (l.map g) := by
  apply str_ext
  show (placed (tx l) f).toList = l.map g
  unfold placed
  rw [Array.toList_flatten, Array.toList_mapIdx]
  have e : (List.mapIdx (fun i c => (f i c).toArray) (tx l).cps.toList).map Array.toList = l.map fun c => [g c] := by
    rw [tx_list]
    apply List.ext_getElem?
    intro i
    simp only [List.getElem?_map, List.getElem?_mapIdx]
    cases q : l[i]? with
    | none => rfl
    | some c => simp [h i c q]
  rw [e]
  exact flat_one g l
theorem lower_tx (l : List Nat) (h : ∀ c ∈ l, c < 128) : Txt.lower (tx l) = tx (l.map lowN) := by
  refine placed_map l _ lowN fun i c q => ?_
  have hc := h c (List.mem_of_getElem? q)
  have e : (tx l).cps[i]? = some c := by simpa [tx] using q
  unfold Unicode.lowerAt
  rw [e]
  have z : (c == 0x3A3) = false := by
    have : c ≠ 0x3A3 := by omega
    simpa using this
  simp only [z, Bool.false_and, Bool.false_eq_true, if_false]
  exact lowOf_ascii c hc
theorem upper_tx (l : List Nat) (h : ∀ c ∈ l, c < 128) : Txt.upper (tx l) = tx (l.map upN) :=
  placed_map l _ upN fun i c q => upOf_ascii c (h c (List.mem_of_getElem? q))
theorem m0_lower (l : List Nat) (h : ∀ c ∈ l, c < 128) (hl : l.length ≤ 1000000) : m0D .lower (.str (tx l)) = .ok (.str (tx (l.map lowN))) := by
  simp only [m0D, tx_len, if_pos hl, lower_tx l h]
theorem m0_upper (l : List Nat) (h : ∀ c ∈ l, c < 128) (hl : l.length ≤ 1000000) : m0D .upper (.str (tx l)) = .ok (.str (tx (l.map upN))) := by
  simp only [m0D, tx_len, if_pos hl, upper_tx l h]
/-- a text parted at a sign -/
def splitL (c : Nat) : List Nat → List (List Nat)
  | [] => [[]]
  | x :: l => if x = c then [] :: splitL c l else match splitL c l with
    | [] => [[x]]
    | w :: r => (x :: w) :: r
def joinL (c : Nat) : List (List Nat) → List Nat
  | [] => []
  | [w] => w
  | w :: v :: r => w ++ c :: joinL c (v :: r)
theorem splitL_free (c : Nat) : ∀ (l : List Nat), (∀ x ∈ l, x ≠ c) → splitL c l = [l]
  | [], _ => rfl
  | x :: l, h => by
    unfold splitL
    rw [if_neg (h x (by simp)), splitL_free c l fun y hy => h y (by simp [hy])]
theorem splitL_app (c : Nat) : ∀ (w l : List Nat), (∀ x ∈ w, x ≠ c) → splitL c (w ++ c :: l) = w :: splitL c l
  | [], l, _ => by
    rw [List.nil_append]
    conv => lhs; unfold splitL
    rw [if_pos rfl]
  | x :: w, l, h => by
    rw [List.cons_append]
    conv => lhs; unfold splitL
    rw [if_neg (h x (by simp)), splitL_app c w l fun y hy => h y (by simp [hy])]
theorem splitL_join (c : Nat) : ∀ ps : List (List Nat), ps ≠ [] → (∀ w ∈ ps, ∀ x ∈ w, x ≠ c) → splitL c (joinL c ps) = ps
  | [], h, _ => absurd rfl h
  | [w], _, f => splitL_free c w (f w (by simp))
  | w :: v :: r, _, f => by
    unfold joinL
    rw [splitL_app c w _ (f w (by simp)), splitL_join c (v :: r) (by simp) fun u hu => f u (by simp only [List.mem_cons] at hu ⊢; exact .inr hu)]
theorem splitL_ne (c : Nat) : ∀ l : List Nat, splitL c l ≠ []
  | [] => by simp [splitL]
  | x :: l => by
    unfold splitL
    split
    · simp
    · split <;> simp
theorem str_join (c : Nat) : ∀ S : List Str, (Str.join (tx [c]) S).cps.toList = joinL c (S.map fun s => s.cps.toList)
  | [] => rfl
  | [s] => rfl
  | s :: t :: r => by
    show (s ++ tx [c] ++ Str.join (tx [c]) (t :: r)).cps.toList = _
    rw [str_cat, str_cat, str_join c (t :: r)]
    simp [joinL]
theorem split_tx (c : Nat) (l : List Nat) : Txt.split (tx l) (tx [c]) = (splitL c l).map tx := by
  have h1 : (Str.join (tx [c]) (Txt.split (tx l) (tx [c]))).cps.toList = l := by rw [StrLaws.join_split, tx_list]
  have h2 := StrLaws.split_free (tx l) c
  have h3 := PyProof.Rows.split_pos (tx l) (tx [c])
  have h2' : ∀ p ∈ Txt.split (tx l) (tx [c]), c ∉ p.cps.toList := h2
  generalize Txt.split (tx l) (tx [c]) = S at *
  rw [str_join] at h1
  have e := splitL_join c (S.map fun s => s.cps.toList) (fun z => by
    have := congrArg List.length z
    simp at this
    rw [this] at h3
    simp at h3) fun w hw x hx hxc => by
      obtain ⟨s, hs, rfl⟩ := List.mem_map.mp hw
      subst hxc
      exact h2' s hs hx
  rw [h1] at e
  rw [e, List.map_map]
  have : ∀ s : Str, (tx ∘ fun s => s.cps.toList) s = s := fun s => tx_of s
  conv => lhs; rw [← List.map_id S]
  exact List.map_congr_left fun s _ => (this s).symm
theorem m1_split (c : Nat) (l : List Nat) (h : l.length ≤ 1000000) : m1D .split (.str (tx l)) (.str (tx [c])) = .ok (.list ((splitL c l).map fun w => .str (tx w))) := by
  have e : (tx [c]).length ≠ 0 ∧ (tx l).length ≤ 1000000 := ⟨by simp, by simpa using h⟩
  simp only [m1D]
  rw [if_pos e, split_tx, List.map_map]
  rfl
theorem endswith_tx (c : Nat) (l : List Nat) : Txt.endswith (tx l) (tx [c]) = decide (l.getLast? = some c) := by
  unfold Txt.endswith Builtin.Str.subAt
  simp only [tx_len, List.length_cons, List.length_nil]
  by_cases h : l = []
  · subst h
    simp
  · have hl : 0 < l.length := List.length_pos_iff.mpr h
    have e1 : decide (0 + (0 + 1) ≤ l.length) = true := decide_eq_true (by omega)
    rw [e1, Bool.true_and]
    have e2 : ((tx l).cps.extract (l.length - (0 + 1)) (l.length - (0 + 1) + (0 + 1))).toList = [l.getLast h] := by
      rw [Array.toList_extract]
      show List.extract l _ _ = _
      rw [List.extract_eq_drop_take]
      have : l.length - (0 + 1) + (0 + 1) - (l.length - (0 + 1)) = 1 := by omega
      have ed : l.drop (l.length - 1) = [l.getLast h] := by
        rw [List.drop_eq_getElem_cons (by omega : l.length - 1 < l.length), List.drop_eq_nil_of_le (by omega), List.getLast_eq_getElem]
      rw [this, Nat.zero_add, ed]
      simp
    rw [List.getLast?_eq_some_getLast h, Bool.eq_iff_iff]
    constructor
    · intro q
      have q := eq_of_beq q
      have : ((tx l).cps.extract (l.length - (0 + 1)) (l.length - (0 + 1) + (0 + 1))).toList = (tx [c]).cps.toList := by rw [q]
      rw [e2, tx_list] at this
      simp at this
      simp [this]
    · intro q
      have q := of_decide_eq_true q
      simp at q
      refine beq_iff_eq.mpr ?_
      apply Array.toList_inj.mp
      rw [e2, q]
      rfl
theorem m1_ends (c : Nat) (l : List Nat) : m1D .endswith (.str (tx l)) (.str (tx [c])) = .ok (.bool (decide (l.getLast? = some c))) := by
  simp only [m1D, endswith_tx]
theorem splitL_len (c : Nat) : ∀ l : List Nat, (splitL c l).length ≤ l.length + 1
  | [] => by simp [splitL]
  | x :: l => by
    have := splitL_len c l
    unfold splitL
    split
    · simp; omega
    · have hne := splitL_ne c l
      cases q : splitL c l with
      | nil => simp
      | cons w r => rw [q] at this; simp at this ⊢; omega
theorem splitL_mem (c : Nat) : ∀ (l : List Nat), ∀ w ∈ splitL c l, w.length ≤ l.length ∧ (∀ x ∈ w, x ∈ l ∧ x ≠ c)
  | [], w, h => by
    simp [splitL] at h
    subst h
    simp
  | x :: l, w, h => by
    unfold splitL at h
    split at h
    · rcases List.mem_cons.mp h with rfl | h
      · simp
      · have := splitL_mem c l w h
        refine ⟨by simp; omega, fun y hy => ⟨by simp [(this.2 y hy).1], (this.2 y hy).2⟩⟩
    · rename_i hx
      have hne := splitL_ne c l
      cases q : splitL c l with
      | nil => exact absurd q hne
      | cons v r =>
        rw [q] at h
        rcases List.mem_cons.mp h with rfl | h
        · have := splitL_mem c l v (by rw [q]; simp)
          refine ⟨by simp; omega, fun y hy => ?_⟩
          rcases List.mem_cons.mp hy with rfl | hy
          · exact ⟨by simp, hx⟩
          · exact ⟨by simp [(this.2 y hy).1], (this.2 y hy).2⟩
        · have := splitL_mem c l w (by rw [q]; simp [h])
          exact ⟨by simp; omega, fun y hy => ⟨by simp [(this.2 y hy).1], (this.2 y hy).2⟩⟩
theorem tx_eq (a b : List Nat) : (tx a = tx b) ↔ a = b := ⟨tx_inj, fun h => by rw [h]⟩
theorem nin_ch (c : Nat) (s : Str) : cmpD .nin (.str (tx [c])) (.str s) = .ok (!decide (c ∈ s.cps.toList)) := rfl
theorem items_tx (l : List Nat) : itemsD (.str (tx l)) = .ok (l.map fun c => PyData.str (tx [c])) := rfl
theorem len_tx (l : List Nat) (h : l.length ≤ 1000000) : biD .len [.str (tx l)] = .ok (.int l.length) := by
  simp only [biD, tx_len]
  rw [if_pos h]
theorem all_any {α : Type} (p : α → Bool) (l : List α) : l.all p = !l.any fun c => !p c := by
  induction l with
  | nil => rfl
  | cons x l ih => simp [ih]
theorem sl_dropLast (t : List Nat) (h : t.length ≤ 1000000) : slD (.str (tx t)) none (some (-1)) = .ok (.str (tx t.dropLast)) := by
  have e : cutL t none (some (-1)) = t.dropLast := by
    have : cutL t none (some (-((1 : Nat) : Int))) = t.take (t.length - 1) := cut_toneg t 1 (by omega)
    rw [List.dropLast_eq_take]
    exact this
  simp only [slD, tx_len, if_pos h, cutS_tx, e]
theorem sl_dropLastT (n : List Dat) : slD (.tuple n) none (some (-1)) = .ok (.tuple n.dropLast) := by
  have e : cutL n none (some (-1)) = n.dropLast := by
    have : cutL n none (some (-((1 : Nat) : Int))) = n.take (n.length - 1) := cut_toneg n 1 (by omega)
    rw [List.dropLast_eq_take]
    exact this
  simp only [slD, e]
theorem ix_last (n : List Dat) (d : Dat) (h : n.getLast? = some d) : ixD (.tuple n) (.int (-1)) = .ok d := by
  have hne : n ≠ [] := fun e => by subst e; cases h
  have hl : 0 < n.length := List.length_pos_iff.mpr hne
  have e : L2.atI n (-1) = some d := by
    unfold L2.atI L2.ixN
    rw [if_neg (by omega), if_pos (by omega)]
    have e2 : (-1 + (n.length : Int)).toNat = n.length - 1 := by omega
    simp only [Option.bind_some, e2]
    rw [← h, List.getLast?_eq_getElem?]
  simp only [ixD, e]
/-- a loop that raises at the first that p holds of -/
theorem for_raise {P : Pg} {tmp : List Nat} {tg : Tg} {it : It} {body : Ss} {ρ : En} {α : Type} (e : α → Dat) (xs : List α) (p : α → Bool) (c : Str) (ρ0 : En) (hi : evI P it ρ = .ok (xs.map e)) (hu : unS tmp ρ = ρ0)
    (h : ∀ x ∈ xs, ∃ ρ1, setT tg (e x) ρ0 = .ok ρ1 ∧ (p x = true → exSs P body ρ1 = .exc c none) ∧ (p x = false → ∃ ρ', (exSs P body ρ1 = .nx ρ' ∨ exSs P body ρ1 = .ct ρ') ∧ unS tmp ρ' = ρ0)) :
    exS P (.for_ tmp tg it body) ρ = cond (xs.any p) (.exc c none) (.nx ρ0) := by
  refine for_st e xs (fun _ : Unit => ρ0) (fun rest _ => xs.any p = rest.any p ∧ ∀ x ∈ rest, x ∈ xs) (fun o => o = cond (xs.any p) (.exc c none) (.nx ρ0)) () hi ⟨rfl, fun _ h => h⟩ hu (fun _ h => by rw [h.1]; rfl) fun x rest _ hI => ?_
  obtain ⟨ρ1, h1, h2, h3⟩ := h x (hI.2 x (by simp))
  refine ⟨ρ1, h1, ?_⟩
  cases q : p x with
  | true =>
    refine .inr (.inr ⟨c, none, h2 q, ?_⟩)
    rw [hI.1, List.any_cons, q]
    rfl
  | false =>
    obtain ⟨ρ', h4, h5⟩ := h3 q
    refine .inl ⟨(), ρ', h4, h5, ?_, fun y hy => hI.2 y (by simp [hy])⟩
    rw [hI.1, List.any_cons, q, Bool.false_or]
end NW
end

section
set_option maxHeartbeats 4000000
/-! Things that change: values that point, cells, and how they stand in the heap. -/
namespace NW
open PySem PySem.Spec PyProof.Rows L2

/-- a value: data that stay; a cell; a tuple with cells in it -/
inductive AV where
  | fz (d : Dat)
  | loc (n : Nat)
  | tp (xs : List AV)
inductive Cell where
  | lst (xs : List AV)
  | dct (kvs : List (Str × AV))
  | obj (c : Str) (fs : List (Str × AV))
  | dead
abbrev Hc := List Cell

mutual
inductive AVR (K : PySem.W.Frag) (G : Hp) (μ : List Addr) : V → AV → Prop
  | fz {v : V} {d : Dat} : Rep K G v d → AVR K G μ v (.fz d)
  | loc {n : Nat} {a : Addr} : μ[n]? = some a → AVR K G μ (.ref a) (.loc n)
  | tp {a : Addr} {vs : List V} {xs : List AV} : SqT K G a vs → AVRs K G μ vs xs → AVR K G μ (.ref a) (.tp xs)
inductive AVRs (K : PySem.W.Frag) (G : Hp) (μ : List Addr) : List V → List AV → Prop
  | nil : AVRs K G μ [] []
  | cons {v : V} {vs : List V} {a : AV} {xs : List AV} : AVR K G μ v a → AVRs K G μ vs xs → AVRs K G μ (v :: vs) (a :: xs)
end
/-- later addresses -/
def Le (G : Hp) (μ : List Addr) (G' : Hp) (μ' : List Addr) : Prop := Same G G' ∧ μ <+: μ'
theorem Le.refl (G : Hp) (μ : List Addr) : Le G μ G μ := ⟨Same.refl G, List.prefix_refl μ⟩
theorem Le.trans {G G1 G2 : Hp} {μ μ1 μ2 : List Addr} (a : Le G μ G1 μ1) (b : Le G1 μ1 G2 μ2) : Le G μ G2 μ2 := ⟨a.1.trans b.1, a.2.trans b.2⟩
theorem pre_get {μ μ' : List Addr} (h : μ <+: μ') {n : Nat} {a : Addr} (e : μ[n]? = some a) : μ'[n]? = some a := by
  obtain ⟨t, rfl⟩ := h
  have hi := (List.getElem?_eq_some_iff.mp e).1
  rw [List.getElem?_append_left hi]
  exact e
section
variable {K : PySem.W.Frag} {mg : Str → Option Value} {G G' H H' : Hp} {μ μ' : List Addr} {h : Hc}
mutual
theorem AVR.keep (l : Le G μ G' μ') : ∀ (a : AV) (v : V), AVR K G μ v a → AVR K G' μ' v a
  | .fz d, _, r => by cases r with | fz r => exact .fz (r.mono l.1)
  | .loc n, _, r => by cases r with | loc e => exact .loc (pre_get l.2 e)
  | .tp xs, _, r => by cases r with | tp q r => exact .tp (sqT_keep l.1 q) (AVRs.keep l xs _ r)
theorem AVRs.keep (l : Le G μ G' μ') : ∀ (xs : List AV) (vs : List V), AVRs K G μ vs xs → AVRs K G' μ' vs xs
  | [], _, r => by cases r; exact .nil
  | a :: xs, _, r => by cases r with | cons r t => exact .cons (AVR.keep l a _ r) (AVRs.keep l xs _ t)
end
theorem AVR.mono (l : Le G μ G' μ') {a : AV} {v : V} (r : AVR K G μ v a) : AVR K G' μ' v a := AVR.keep l a v r
theorem AVRs.mono (l : Le G μ G' μ') {a : List AV} {v : List V} (r : AVRs K G μ v a) : AVRs K G' μ' v a := AVRs.keep l a v r
theorem AVRs.length : ∀ {vs : List V} {xs : List AV}, AVRs K G μ vs xs → vs.length = xs.length
  | _, [], r => by cases r; rfl
  | _, _ :: xs, r => by cases r with | cons _ t => simp [AVRs.length (xs := xs) t]
theorem AVRs.get : ∀ {vs : List V} {xs : List AV}, AVRs K G μ vs xs → ∀ {i : Nat} {d : AV}, xs[i]? = some d → ∃ v, vs[i]? = some v ∧ AVR K G μ v d
  | _, [], r, i, d, e => by simp at e
  | _, x :: xs, r, i, z, e => by
    cases r with
    | cons r t =>
      cases i with
      | zero => simp at e; subst e; exact ⟨_, rfl, r⟩
      | succ i => simp at e; obtain ⟨v, h1, h2⟩ := AVRs.get (xs := xs) t e; exact ⟨v, by simpa using h1, h2⟩
theorem AVRs.getV : ∀ {vs : List V} {xs : List AV}, AVRs K G μ vs xs → ∀ {i : Nat} {v : V}, vs[i]? = some v → ∃ d, xs[i]? = some d ∧ AVR K G μ v d := fun {vs xs} r {i v} e => by
  have hi := (List.getElem?_eq_some_iff.mp e).1
  have hd : i < xs.length := by rw [← r.length]; exact hi
  obtain ⟨w, h1, h2⟩ := r.get (i := i) (d := xs[i]) (by simp [hd])
  rw [e] at h1; cases h1
  exact ⟨xs[i], by simp [hd], h2⟩
theorem AVRs.append : ∀ {vs ws : List V} {xs ys : List AV}, AVRs K G μ vs xs → AVRs K G μ ws ys → AVRs K G μ (vs ++ ws) (xs ++ ys)
  | _, _, [], _, r, q => by cases r; exact q
  | _, _, _ :: xs, _, r, q => by cases r with | cons r t => exact .cons r (AVRs.append (xs := xs) t q)
theorem AVRs.set : ∀ {vs : List V} {xs : List AV}, AVRs K G μ vs xs → ∀ {v : V} {d : AV}, AVR K G μ v d → ∀ i : Nat, AVRs K G μ (vs.set i v) (xs.set i d)
  | _, [], r, v, d, q, i => by cases r; exact .nil
  | _, x :: xs, r, v, d, q, i => by
    cases r with
    | cons r t =>
      cases i with
      | zero => exact .cons q t
      | succ i => exact .cons r (AVRs.set (xs := xs) t q i)
theorem AVRs.dropLast : ∀ {vs : List V} {xs : List AV}, AVRs K G μ vs xs → AVRs K G μ vs.dropLast xs.dropLast
  | _, [], r => by cases r; exact .nil
  | _, [x], r => by cases r with | cons r t => cases t; exact .nil
  | _, x :: y :: xs, r => by
    cases r with
    | cons r t =>
      cases t with
      | cons r2 t2 => exact .cons r (AVRs.dropLast (xs := y :: xs) (.cons r2 t2))
/-- all of them data that stay -/
def fzs : List AV → Option (List Dat)
  | [] => some []
  | .fz d :: r => (fzs r).map (d :: ·)
  | _ :: _ => none
theorem fzs_reps : ∀ {xs : List AV} {vs : List V} {ds : List Dat}, AVRs K G μ vs xs → fzs xs = some ds → Reps K G vs ds
  | [], _, ds, r, e => by cases r; simp only [fzs] at e; cases e; exact .nil
  | .fz d :: xs, _, ds, r, e => by
    cases r with
    | cons r t =>
      cases r with
      | fz r =>
        simp only [fzs] at e
        cases q : fzs xs with
        | none => rw [q] at e; cases e
        | some es => rw [q] at e; cases e; exact .cons r (fzs_reps t q)
  | .loc n :: xs, _, ds, r, e => by simp only [fzs] at e; cases e
  | .tp n :: xs, _, ds, r, e => by simp only [fzs] at e; cases e
theorem reps_fzs : ∀ {ds : List Dat} {vs : List V}, Reps K G vs ds → AVRs K G μ vs (ds.map .fz)
  | [], _, r => by cases r; exact .nil
  | d :: ds, _, r => by cases r with | cons r t => exact .cons (.fz r) (reps_fzs t)
@[simp] theorem fzs_nil : fzs [] = some [] := rfl
@[simp] theorem fzs_cons (d : Dat) (r : List AV) : fzs (.fz d :: r) = (fzs r).map (d :: ·) := rfl
@[simp] theorem fzs_map : ∀ ds : List Dat, fzs (ds.map .fz) = some ds
  | [] => rfl
  | d :: ds => by simp [fzs_map ds]

/-! ### cells -/
def CR (K : PySem.W.Frag) (mg : Str → Option Value) (G : Hp) (μ : List Addr) : Cell → HO → Prop
  | .lst xs, o => ∃ vs, o = .lst vs ∧ AVRs K G μ vs xs
  | .dct kvs, o => ∃ ws : List (Key × V), o = .dK ws ∧ ws.map (·.1) = kvs.map (fun p => (.inr p.1 : Key)) ∧ AVRs K G μ (ws.map (·.2)) (kvs.map (·.2))
  | .obj c fs, o => ∃ (C dx : Addr) (ws : List (Str × V)), mg c = some (.ref C) ∧ o = .ins C dx ws ∧ ws.map (·.1) = fs.map (·.1) ∧ AVRs K G μ (ws.map (·.2)) (fs.map (·.2))
  | .dead, _ => False
theorem CR.mono (l : Le G μ G' μ') {c : Cell} {o : HO} (r : CR K mg G μ c o) : CR K mg G' μ' c o := by
  cases c with
  | lst xs => obtain ⟨vs, e, r⟩ := r; exact ⟨vs, e, r.mono l⟩
  | dct kvs => obtain ⟨ws, e, k, r⟩ := r; exact ⟨ws, e, k, r.mono l⟩
  | obj c fs => obtain ⟨C, dx, ws, m, e, k, r⟩ := r; exact ⟨C, dx, ws, m, e, k, r.mono l⟩
  | dead => exact r
structure Ht (K : PySem.W.Frag) (mg : Str → Option Value) (G : Hp) (μ : List Addr) (h : Hc) (H : Hp) : Prop where
  sub : Same G H
  len : μ.length = h.length
  nd : μ.Nodup
  dom : ∀ a ∈ μ, H a ≠ none
  at_ : ∀ (n : Nat) (c : Cell), h[n]? = some c → c ≠ .dead → ∃ a o, μ[n]? = some a ∧ G a = none ∧ H a = some o ∧ CR K mg G μ c o
theorem Ht.ext (t : Ht K mg G μ h H) (x : Ext H G H' G') : Ht K mg G' μ h H' := by
  refine ⟨x.sub, t.len, t.nd, fun a ha => ?_, fun n c e ne => ?_⟩
  · cases q : H a with
    | none => exact absurd q (t.dom a ha)
    | some o => rw [x.all _ _ q]; simp
  · obtain ⟨a, o, h1, h2, h3, h4⟩ := t.at_ n c e ne
    refine ⟨a, o, h1, ?_, x.all _ _ h3, h4.mono ⟨x.stl, List.prefix_refl μ⟩⟩
    cases q : G' a with
    | none => rfl
    | some o' =>
      rcases x.new a (by rw [q]; simp) with z | z
      · exact absurd h2 z
      · rw [z] at h3; cases h3
theorem Ht.inj (t : Ht K mg G μ h H) {i j : Nat} {a : Addr} (e1 : μ[i]? = some a) (e2 : μ[j]? = some a) : i = j := by
  have h1 := (List.getElem?_eq_some_iff.mp e1)
  have h2 := (List.getElem?_eq_some_iff.mp e2)
  obtain ⟨h1, q1⟩ := h1
  obtain ⟨h2, q2⟩ := h2
  exact (List.getElem_inj t.nd).mp (q1.trans q2.symm)
/-- a new cell -/
theorem Ht.new (t : Ht K mg G μ h H) {p : Addr} (np : H p = none) {c : Cell} {o : HO} (r : CR K mg G (μ ++ [p]) c o) : Ht K mg G (μ ++ [p]) (h ++ [c]) (upd H p o) := by
  have pn : p ∉ μ := fun z => t.dom p z np
  refine ⟨fun b u e => ?_, by simp [t.len], ?_, fun a ha => ?_, fun n d e ne => ?_⟩
  · rw [upd_ne (ne_of_none (t.sub _ _ e) np)]; exact t.sub _ _ e
  · rw [List.nodup_append]
    refine ⟨t.nd, by simp, fun a ha b hb => ?_⟩
    rw [List.mem_singleton] at hb
    subst hb
    exact fun z => pn (z ▸ ha)
  · by_cases q : a = p
    · subst q; rw [upd_same]; simp
    · rw [upd_ne q]
      rcases List.mem_append.mp ha with z | z
      · exact t.dom a z
      · exact absurd (List.mem_singleton.mp z) q
  · by_cases hn : n < h.length
    · rw [List.getElem?_append_left hn] at e
      obtain ⟨a, o', h1, h2, h3, h4⟩ := t.at_ n d e ne
      refine ⟨a, o', pre_get (List.prefix_append _ _) h1, h2, ?_, h4.mono ⟨Same.refl G, List.prefix_append _ _⟩⟩
      rw [upd_ne (ne_of_none h3 np)]; exact h3
    · rw [List.getElem?_append_right (by omega)] at e
      have hz : n - h.length = 0 := by
        cases q : n - h.length with
        | zero => rfl
        | succ k => rw [q] at e; simp at e
      rw [hz] at e
      simp at e
      subst e
      refine ⟨p, o, ?_, t.sub.free np, upd_same, r⟩
      rw [List.getElem?_append_right (by rw [t.len]; omega), t.len, hz]
      rfl
theorem Le.new (G : Hp) (μ : List Addr) (p : Addr) : Le G μ G (μ ++ [p]) := ⟨Same.refl G, List.prefix_append _ _⟩
theorem Ht.last (t : Ht K mg G μ h H) {p : Addr} : (μ ++ [p])[h.length]? = some p := by
  rw [List.getElem?_append_right (by rw [t.len]; omega), t.len, Nat.sub_self]; rfl
/-- a cell is changed -/
theorem Ht.set (t : Ht K mg G μ h H) {n : Nat} {a : Addr} {c c' : Cell} {o' : HO} (e : h[n]? = some c) (ne : c ≠ .dead) (ea : μ[n]? = some a) (r : CR K mg G μ c' o') : Ht K mg G μ (h.set n c') (upd H a o') := by
  obtain ⟨a', o, h1, h2, h3, h4⟩ := t.at_ n c e ne
  rw [ea] at h1
  cases h1
  refine ⟨fun b u q => ?_, by simp [t.len], t.nd, fun b hb => ?_, fun m d q nd => ?_⟩
  · rw [upd_ne (ne_of_none q h2)]; exact t.sub _ _ q
  · by_cases z : b = a
    · subst z; rw [upd_same]; simp
    · rw [upd_ne z]; exact t.dom b hb
  · by_cases z : n = m
    · subst z
      rw [List.getElem?_set_self (List.getElem?_eq_some_iff.mp e).1] at q
      cases q
      exact ⟨a, o', ea, h2, upd_same, r⟩
    · rw [List.getElem?_set_ne z] at q
      obtain ⟨b, u, q1, q2, q3, q4⟩ := t.at_ m d q nd
      refine ⟨b, u, q1, q2, ?_, q4⟩
      rw [upd_ne (fun w : b = a => z (t.inj ea (w ▸ q1)))]
      exact q3
theorem Ht.cell (t : Ht K mg G μ h H) {n : Nat} {c : Cell} (e : h[n]? = some c) (ne : c ≠ .dead) {v : V} (r : AVR K G μ v (.loc n)) : ∃ a o, v = .ref a ∧ μ[n]? = some a ∧ G a = none ∧ H a = some o ∧ CR K mg G μ c o := by
  cases r with
  | loc q =>
    obtain ⟨a, o, h1, h2, h3, h4⟩ := t.at_ n c e ne
    rw [q] at h1
    cases h1
    exact ⟨_, o, rfl, q, h2, h3, h4⟩
theorem Ht.lst (t : Ht K mg G μ h H) {n : Nat} {xs : List AV} (e : h[n]? = some (.lst xs)) {v : V} (r : AVR K G μ v (.loc n)) : ∃ a vs, v = .ref a ∧ μ[n]? = some a ∧ G a = none ∧ H a = some (.lst vs) ∧ AVRs K G μ vs xs := by
  obtain ⟨a, o, h1, h2, h3, h4, vs, rfl, h5⟩ := t.cell e (by simp) r
  exact ⟨a, vs, h1, h2, h3, h4, h5⟩

/-! ### reading -/
def rdL (f : AV → Option Dat) : List AV → Option (List Dat)
  | [] => some []
  | x :: xs => match f x, rdL f xs with
    | some d, some ds => some (d :: ds)
    | _, _ => none
/-- what a value holds, all the way down -/
def rdA (h : Hc) : Nat → AV → Option Dat
  | 0, _ => none
  | _ + 1, .fz d => some d
  | f + 1, .loc n => match h[n]? with
    | some (.lst xs) => (rdL (rdA h f) xs).map .list
    | some (.dct kvs) => (rdL (rdA h f) (kvs.map (·.2))).map fun ds => .dict ((kvs.map fun p => PyData.str p.1).zip ds)
    | _ => none
  | f + 1, .tp xs => (rdL (rdA h f) xs).map .tuple
def rd (h : Hc) (a : AV) : Option Dat := rdA h 9 a
theorem repd_of : ∀ {ws : List (Key × V)} {kvs : List (Str × AV)} {ds : List Dat}, ws.map (·.1) = kvs.map (fun p => (.inr p.1 : Key)) → Reps K G (ws.map (·.2)) ds → Repd K G ws ((kvs.map fun p => PyData.str p.1).zip ds)
  | [], [], ds, _, r => by cases r; exact .nil
  | [], _ :: _, _, e, _ => by simp at e
  | _ :: _, [], _, e, _ => by simp at e
  | (k, v) :: ws, (x, a) :: kvs, ds, e, r => by
    simp only [List.map_cons, List.cons.injEq] at e
    obtain ⟨e1, e2⟩ := e
    subst e1
    cases r with
    | cons r t => exact .str r (repd_of e2 t)
/-- the live cells -/
def Live (μ : List Addr) (h : Hc) (a : Addr) : Prop := ∃ (n : Nat) (c : Cell), h[n]? = some c ∧ c ≠ .dead ∧ μ[n]? = some a
theorem rdL_rep {f : AV → Option Dat} {F : Hp} (hf : ∀ x v d, AVR K G μ v x → f x = some d → Rep K F v d) : ∀ {xs : List AV} {vs : List V} {ds : List Dat}, AVRs K G μ vs xs → rdL f xs = some ds → Reps K F vs ds
  | [], _, ds, r, e => by cases r; simp only [rdL] at e; cases e; exact .nil
  | x :: xs, _, ds, r, e => by
    cases r with
    | cons r t =>
      simp only [rdL] at e
      split at e
      · rename_i d es q1 q2
        cases e
        exact .cons (hf _ _ _ r q1) (rdL_rep hf t q2)
      · cases e
theorem rdA_rep {F : Hp} (t : Ht K mg G μ h H) (s : Same G F) (lv : ∀ a, Live μ h a → F a = H a) : ∀ (f : Nat) (x : AV) (v : V) (d : Dat), AVR K G μ v x → rdA h f x = some d → Rep K F v d
  | 0, _, _, _, _, e => by simp only [rdA] at e; cases e
  | f + 1, .fz d, v, d', r, e => by
    simp only [rdA] at e
    cases e
    cases r with | fz r => exact r.mono s
  | f + 1, .loc n, v, d, r, e => by
    simp only [rdA] at e
    cases q : h[n]? with
    | none => rw [q] at e; cases e
    | some c =>
      rw [q] at e
      cases c with
      | lst xs =>
        simp only at e
        obtain ⟨a, vs, rfl, h2, h3, h4, h5⟩ := t.lst q r
        cases q2 : rdL (rdA h f) xs with
        | none => rw [q2] at e; cases e
        | some ds =>
          rw [q2] at e
          cases e
          refine .lst (SqL.of ?_) (rdL_rep (rdA_rep t s lv f) h5 q2)
          rw [lv a ⟨n, _, q, by simp, h2⟩]
          exact h4
      | dct kvs =>
        simp only at e
        obtain ⟨a, o, rfl, h2, h3, h4, ws, rfl, h5, h6⟩ := t.cell q (by simp) r
        cases q2 : rdL (rdA h f) (kvs.map (·.2)) with
        | none => rw [q2] at e; cases e
        | some ds =>
          rw [q2] at e
          cases e
          refine .dct (.inl ?_) (repd_of h5 (rdL_rep (rdA_rep t s lv f) h6 q2))
          rw [lv a ⟨n, _, q, by simp, h2⟩]
          exact h4
      | obj _ _ => cases e
      | dead => cases e
  | f + 1, .tp xs, v, d, r, e => by
    simp only [rdA] at e
    cases r with
    | tp q r =>
      cases q2 : rdL (rdA h f) xs with
      | none => rw [q2] at e; cases e
      | some ds =>
        rw [q2] at e
        cases e
        exact .tup (sqT_keep s q) (rdL_rep (rdA_rep t s lv f) r q2)
theorem rd_rep (t : Ht K mg G μ h H) {x : AV} {v : V} {d : Dat} (r : AVR K G μ v x) (e : rd h x = some d) : Rep K H v d := rdA_rep t t.sub (fun _ _ => rfl) 9 x v d r e
/-- one level: what may be read as a list of things that stay -/
def fl (h : Hc) : AV → Option Dat
  | .fz d => some d
  | .loc n => match h[n]? with
    | some (.lst xs) => (fzs xs).map .list
    | _ => none
  | .tp _ => none
theorem fl_rw (t : Ht K mg G μ h H) {x : AV} {v : V} {d : Dat} (r : AVR K G μ v x) (e : fl h x = some d) : RW K H G v d := by
  cases x with
  | fz d' => simp only [fl] at e; cases e; cases r with | fz r => exact .st r
  | loc n =>
    simp only [fl] at e
    cases q : h[n]? with
    | none => rw [q] at e; cases e
    | some c =>
      rw [q] at e
      cases c with
      | lst xs =>
        simp only at e
        obtain ⟨a, vs, rfl, h2, h3, h4, h5⟩ := t.lst q r
        cases q2 : fzs xs with
        | none => rw [q2] at e; cases e
        | some ds =>
          rw [q2] at e
          cases e
          exact .wk (SqL.of h4) (fzs_reps h5 q2)
      | _ => cases e
  | tp xs => simp only [fl] at e; cases e

/-! ### what is changed no more -/
def frzL (f : AV → Hc → Option (Dat × Hc)) : List AV → Hc → Option (List Dat × Hc)
  | [], h => some ([], h)
  | x :: xs, h => match f x h with
    | some (d, h1) => match frzL f xs h1 with
      | some (ds, h2) => some (d :: ds, h2)
      | none => none
    | none => none
def frzA : Nat → AV → Hc → Option (Dat × Hc)
  | 0, _, _ => none
  | _ + 1, .fz d, h => some (d, h)
  | f + 1, .loc n, h => match h[n]? with
    | some (.lst xs) => match frzL (frzA f) xs (h.set n .dead) with
      | some (ds, h') => some (.list ds, h')
      | none => none
    | some (.dct kvs) => match frzL (frzA f) (kvs.map (·.2)) (h.set n .dead) with
      | some (ds, h') => some (.dict ((kvs.map fun p => PyData.str p.1).zip ds), h')
      | none => none
    | _ => none
  | f + 1, .tp xs, h => match frzL (frzA f) xs h with
    | some (ds, h') => some (.tuple ds, h')
    | none => none
def frz (x : AV) (h : Hc) : Option (Dat × Hc) := frzA 9 x h
/-- a cell is not looked at any more -/
theorem Ht.kill (t : Ht K mg G μ h H) (n : Nat) : Ht K mg G μ (h.set n .dead) H := by
  refine ⟨t.sub, by simp [t.len], t.nd, t.dom, fun m c e ne => ?_⟩
  by_cases z : n = m
  · subst z
    cases q : h[n]? with
    | none =>
      have hl : h.length ≤ n := List.getElem?_eq_none_iff.mp q
      rw [List.getElem?_eq_none (by simpa using hl)] at e
      cases e
    | some c' =>
      rw [List.getElem?_set_self (List.getElem?_eq_some_iff.mp q).1] at e
      cases e
      exact absurd rfl ne
  · rw [List.getElem?_set_ne z] at e
    exact t.at_ m c e ne
theorem live_kill {n : Nat} {a b : Addr} (t : Ht K mg G μ h H) (ea : μ[n]? = some a) (l : Live μ (h.set n .dead) b) : Live μ h b ∧ b ≠ a := by
  obtain ⟨m, c, e, ne, eb⟩ := l
  have z : n ≠ m := fun z => by
    subst z
    have hl : n < h.length := by
      rw [← t.len]
      exact (List.getElem?_eq_some_iff.mp ea).1
    rw [List.getElem?_set_self hl] at e
    cases e
    exact ne rfl
  rw [List.getElem?_set_ne z] at e
  exact ⟨⟨m, c, e, ne, eb⟩, fun w => z (t.inj ea (w ▸ eb))⟩
/-- what freezing gives: more that stays, all of it out of live cells -/
def Frz (K : PySem.W.Frag) (mg : Str → Option Value) (G : Hp) (μ : List Addr) (h : Hc) (H : Hp) (G' : Hp) (h' : Hc) : Prop :=
  Same G G' ∧ Ht K mg G' μ h' H ∧ (∀ b, G' b ≠ none → G b ≠ none ∨ Live μ h b) ∧ (∀ b, Live μ h' b → Live μ h b)
theorem frzL_ok {f : AV → Hc → Option (Dat × Hc)} (hf : ∀ (G : Hp) (h : Hc) (x : AV) (v : V) (d : Dat) (h' : Hc), Ht K mg G μ h H → AVR K G μ v x → f x h = some (d, h') → ∃ G', Frz K mg G μ h H G' h' ∧ Rep K G' v d) :
    ∀ (xs : List AV) (G : Hp) (h : Hc) (vs : List V) (ds : List Dat) (h' : Hc), Ht K mg G μ h H → AVRs K G μ vs xs → frzL f xs h = some (ds, h') → ∃ G', Frz K mg G μ h H G' h' ∧ Reps K G' vs ds
  | [], G, h, _, ds, h', t, r, e => by
    cases r
    simp only [frzL] at e
    cases e
    exact ⟨G, ⟨Same.refl G, t, fun _ z => .inl z, fun _ z => z⟩, .nil⟩
  | x :: xs, G, h, _, ds, h', t, r, e => by
    cases r with
    | cons r q =>
      simp only [frzL] at e
      split at e
      · rename_i d h1 e1
        split at e
        · rename_i es h2 e2
          cases e
          obtain ⟨G1, ⟨s1, t1, n1, l1⟩, r1⟩ := hf G h x _ d h1 t r e1
          obtain ⟨G2, ⟨s2, t2, n2, l2⟩, r2⟩ := frzL_ok hf xs G1 h1 _ es _ t1 (q.mono ⟨s1, List.prefix_refl μ⟩) e2
          refine ⟨G2, ⟨s1.trans s2, t2, fun b z => ?_, fun b z => l1 b (l2 b z)⟩, .cons (r1.mono s2) r2⟩
          rcases n2 b z with z | z
          · exact n1 b z
          · exact .inr (l1 b z)
        · cases e
      · cases e
theorem frz_put {G1 : Hp} {h1 : Hc} {n : Nat} {a : Addr} {o : HO} {c : Cell} (t : Ht K mg G μ h H) (e : h[n]? = some c) (ne : c ≠ .dead) (ea : μ[n]? = some a) (ga : G a = none) (ha : H a = some o)
    (z : Frz K mg G μ (h.set n .dead) H G1 h1) : Frz K mg G μ h H (upd G1 a o) h1 ∧ G1 a = none := by
  obtain ⟨s1, t1, n1, l1⟩ := z
  have lk : ∀ b, Live μ h1 b → Live μ h b ∧ b ≠ a := fun b q => live_kill t ea (l1 b q)
  have g1 : G1 a = none := by
    cases q : G1 a with
    | none => rfl
    | some u =>
      rcases n1 a (by rw [q]; simp) with w | w
      · exact absurd ga w
      · exact absurd rfl (live_kill t ea w).2
  refine ⟨⟨fun b u q => ?_, ⟨fun b u q => ?_, t1.len, t1.nd, t1.dom, fun m c' q nd => ?_⟩, fun b q => ?_, fun b q => (lk b q).1⟩, g1⟩
  · rw [upd_ne (ne_of_none q ga)]; exact s1 _ _ q
  · by_cases w : b = a
    · subst w; rw [upd_same] at q; cases q; exact ha
    · rw [upd_ne w] at q; exact t1.sub _ _ q
  · obtain ⟨b, u, q1, q2, q3, q4⟩ := t1.at_ m c' q nd
    have hb := lk b ⟨m, c', q, nd, q1⟩
    refine ⟨b, u, q1, ?_, q3, q4.mono ⟨fun x y w => ?_, List.prefix_refl μ⟩⟩
    · rw [upd_ne hb.2]; exact q2
    · rw [upd_ne (ne_of_none w g1)]; exact w
  · by_cases w : b = a
    · subst w; exact .inr ⟨n, c, e, ne, ea⟩
    · rw [upd_ne w] at q
      rcases n1 b q with y | y
      · exact .inl y
      · exact .inr (live_kill t ea y).1
theorem frzA_ok : ∀ (f : Nat) (G : Hp) (h : Hc) (x : AV) (v : V) (d : Dat) (h' : Hc), Ht K mg G μ h H → AVR K G μ v x → frzA f x h = some (d, h') → ∃ G', Frz K mg G μ h H G' h' ∧ Rep K G' v d
  | 0, _, _, _, _, _, _, _, _, e => by simp only [frzA] at e; cases e
  | f + 1, G, h, .fz d, v, d', h', t, r, e => by
    simp only [frzA] at e
    cases e
    cases r with | fz r => exact ⟨G, ⟨Same.refl G, t, fun _ z => .inl z, fun _ z => z⟩, r⟩
  | f + 1, G, h, .loc n, v, d, h', t, r, e => by
    simp only [frzA] at e
    cases q : h[n]? with
    | none => rw [q] at e; cases e
    | some c =>
      rw [q] at e
      cases c with
      | lst xs =>
        simp only at e
        obtain ⟨a, vs, rfl, h2, h3, h4, h5⟩ := t.lst q r
        split at e
        · rename_i ds h1 e1
          cases e
          obtain ⟨G1, z, r1⟩ := frzL_ok (frzA_ok f) xs G (h.set n .dead) vs ds _ (t.kill n) h5 e1
          obtain ⟨y, g1⟩ := frz_put t q (by simp) h2 h3 h4 z
          exact ⟨_, y, .lst (SqL.of upd_same) (r1.mono fun b u w => by rw [upd_ne (ne_of_none w g1)]; exact w)⟩
        · cases e
      | dct kvs =>
        simp only at e
        obtain ⟨a, o, rfl, h2, h3, h4, ws, rfl, h5, h6⟩ := t.cell q (by simp) r
        split at e
        · rename_i ds h1 e1
          cases e
          obtain ⟨G1, z, r1⟩ := frzL_ok (frzA_ok f) _ G (h.set n .dead) _ ds _ (t.kill n) h6 e1
          obtain ⟨y, g1⟩ := frz_put t q (by simp) h2 h3 h4 z
          exact ⟨_, y, .dct (.inl upd_same) (repd_of h5 (r1.mono fun b u w => by rw [upd_ne (ne_of_none w g1)]; exact w))⟩
        · cases e
      | obj _ _ => cases e
      | dead => cases e
  | f + 1, G, h, .tp xs, v, d, h', t, r, e => by
    simp only [frzA] at e
    cases r with
    | tp q r =>
      split at e
      · rename_i ds h1 e1
        cases e
        obtain ⟨G1, z, r1⟩ := frzL_ok (frzA_ok f) xs G h _ ds _ t r e1
        exact ⟨G1, z, .tup (sqT_keep z.1 q) r1⟩
      · cases e
end
end NW
end

section
set_option maxHeartbeats 4000000
/-! What a text means over cells. -/
namespace NW
open PySem PySem.Spec PyProof.Rows L2

inductive RO (α : Type) where
  | ok (a : α) (h : Hc)
  | exc (c : Str) (x : Option Dat) (h : Hc)
  | bad
def RO.bnd {α β : Type} (r : RO α) (f : α → Hc → RO β) : RO β := match r with
  | .ok a h => f a h
  | .exc c x h => .exc c x h
  | .bad => .bad
def lft {α : Type} (r : Res α) (h : Hc) : RO α := match r with
  | .ok a => .ok a h
  | .exc c x => .exc c x h
  | .bad => .bad
@[simp] theorem bnd_ok {α β : Type} (a : α) (h : Hc) (f : α → Hc → RO β) : (RO.ok a h).bnd f = f a h := nrfl rfl
@[simp] theorem bnd_exc {α β : Type} (c : Str) (x : Option Dat) (h : Hc) (f : α → Hc → RO β) : (RO.exc c x h : RO α).bnd f = .exc c x h := nrfl rfl
@[simp] theorem bnd_bad {α β : Type} (f : α → Hc → RO β) : (RO.bad : RO α).bnd f = .bad := nrfl rfl
@[simp] theorem lft_ok {α : Type} (a : α) (h : Hc) : lft (.ok a) h = .ok a h := nrfl rfl
@[simp] theorem lft_exc {α : Type} (c : Str) (x : Option Dat) (h : Hc) : lft (.exc c x : Res α) h = .exc c x h := nrfl rfl
@[simp] theorem lft_bad {α : Type} (h : Hc) : lft (.bad : Res α) h = .bad := nrfl rfl

abbrev Ex := List (Option AV)
/-- a slot as data see it -/
def prj (h : Hc) : Option AV → Sl
  | some (.fz d) => .fz d
  | some (.loc n) => match h[n]? with
    | some (.lst xs) => (match fzs xs with
      | some ds => .ow ds
      | none => .un)
    | _ => .un
  | _ => .un
def prE (h : Hc) (ρ : Ex) : En := ρ.map (prj h)

/-- methods of lists and dicts: no argument, one, two -/
inductive MO0 where | clear | pop
inductive MO1 where | append | extend | dpop
inductive MO2 where | setdefault
mutual
inductive XE where
  | p (e : E) | t (e : E)
  | v (i : Nat)
  | tup (es : XEs) | lst (es : XEs) | lsz (es : XEs)
  | dc0 | dc1 (k e : XE)
  | fld (a : XE) (f : Str)
  | ix (a i : XE)
  | dix (a i : XE)
  | bin (o : Bop) (a b : XE)
  | cmp (o : Cop) (a b : XE)
  | din (neg : Bool) (a b : XE)
  | not (a : XE) | and (a b : XE) | or (a b : XE) | ife (c a b : XE)
  | cal (k : Nat) (es : XEs) | calf (k : Nat) (ws : List Bool) (es : XEs) | cald (k : Nat) (es : XEs) | calt (k : Nat) (es : XEs)
  | bi (f : Bi) (es : XEs)
  | len (a : XE)
  | isi (t : Ty) (a : XE)
  | m0 (m : MO0) (a : XE) | m1 (m : MO1) (a b : XE) | m2 (m : MO2) (a b c : XE)
  | dget (a b c : XE)
  | mcl (c m : Str) (k : Nat) (a : XE) (es : XEs)
  | new (c : Str) (k : Nat) (es : XEs)
  | frz (a : XE)
  | lc (own : List Nat) (tg : Tg) (it : IX) (tt elt : XE)
inductive XEs where
  | nil | cons (e : XE) (r : XEs)
inductive IX where
  | p (it : It) | x (e : XE)
end
/-- the program's defs over cells -/
structure PgO where
  F : Nat → List AV → Hc → RO AV
  fld : Str → Str → Bool

def allz : List AV → Bool
  | [] => true
  | .fz _ :: r => allz r
  | _ :: _ => false
def mkT (as : List AV) : AV := match fzs as with
  | some ds => .fz (.tuple ds)
  | none => .tp as
/-- flat readings -/
def flL (h : Hc) : List AV → Option (List Dat)
  | [] => some []
  | x :: xs => match fl h x, flL h xs with
    | some d, some ds => some (d :: ds)
    | _, _ => none
/-- .. only where told a cell -/
def flW (h : Hc) : List Bool → List AV → Option (List Dat)
  | _, [] => some []
  | ws, x :: xs => match (if ws.headD false then fl h x else (match x with
      | .fz d => some d
      | _ => none)), flW h ws.tail xs with
    | some d, some ds => some (d :: ds)
    | _, _ => none
mutual
/-- no list and no dict within -/
def lfree : Dat → Bool
  | .list _ => false
  | .dict _ => false
  | .tuple ds => lfrees ds
  | _ => true
def lfrees : List Dat → Bool
  | [] => true
  | d :: ds => lfree d && lfrees ds
end
def binA (o : Bop) (a b : AV) (h : Hc) : RO AV := match fl h a, fl h b with
  | some d, some e => (lft (binD o d e) h).bnd fun r h => .ok (.fz r) h
  | _, _ => .bad
def isNA : AV → Bool
  | .fz .none => true
  | _ => false
/-- dicts by texts, whose things may be compared -/
def dOk : List (Dat × Dat) → Bool
  | [] => true
  | (.str _, d) :: r => shOk d && dOk r
  | _ :: _ => false
def eqDs (ls : List (Dat × Dat)) : List (Dat × Dat) → Bool
  | [] => true
  | (.str x, d) :: r => (match lkD ls x with
    | some e => PyData.eqv d e && eqDs ls r
    | none => false)
  | _ :: _ => false
def eqDct (ks ls : List (Dat × Dat)) : Bool := ks.length == ls.length && eqDs ls ks
def cmpDD (o : Cop) (ks ls : List (Dat × Dat)) : Res Bool := match o with
  | .eq => if dOk ks && dOk ls then .ok (eqDct ks ls) else .bad
  | .ne => if dOk ks && dOk ls then .ok (!eqDct ks ls) else .bad
  | _ => .bad
def cmpA (o : Cop) (a b : AV) (h : Hc) : RO Bool := match o, b with
  | .isN, .fz .none => .ok (isNA a) h
  | .ntN, .fz .none => .ok (!isNA a) h
  | .isN, _ => .bad
  | .ntN, _ => .bad
  | o, b => match rd h a, rd h b with
    | some d, some e => (match d, e with
      | .dict ks, .dict ls => lft (cmpDD o ks ls) h
      | d, e => lft (cmpD o d e) h)
    | _, _ => .bad
def lkA : List (Str × AV) → Str → Option AV
  | [], _ => none
  | (y, d) :: r, x => if y = x then some d else lkA r x
def putA (kvs : List (Str × AV)) (x : Str) (v : AV) : List (Str × AV) := match lkA kvs x with
  | some _ => kvs.map fun kv => if kv.1 = x then (kv.1, v) else kv
  | none => kvs ++ [(x, v)]
def dropA (kvs : List (Str × AV)) (x : Str) : List (Str × AV) := kvs.filter fun kv => decide (kv.1 ≠ x)
def truA (h : Hc) : AV → Res Bool
  | .fz d => truD d
  | .tp xs => .ok (!xs.isEmpty)
  | .loc n => match h[n]? with
    | some (.lst xs) => .ok (!xs.isEmpty)
    | _ => .bad
def lenA (a : AV) (h : Hc) : RO AV := match a with
  | .loc n => (match h[n]? with
    | some (.lst xs) => .ok (.fz (.int xs.length)) h
    | some (.dct kvs) => .ok (.fz (.int kvs.length)) h
    | _ => .bad)
  | .tp xs => .ok (.fz (.int xs.length)) h
  | _ => .bad
def isLA (h : Hc) : AV → Bool
  | .loc n => (match h[n]? with
    | some (.lst _) => true
    | _ => false)
  | _ => false
def isDA (h : Hc) : AV → Bool
  | .loc n => (match h[n]? with
    | some (.dct _) => true
    | _ => false)
  | .fz (.dict _) => true
  | _ => false
def recv (m : MO1) (h : Hc) (x : AV) : Bool := match m with
  | .dpop => isDA h x
  | _ => isLA h x
def ixA (a i : AV) (h : Hc) : RO AV := match a with
  | .fz d => match i with
    | .fz e => (lft (ixD d e) h).bnd fun r h => .ok (.fz r) h
    | _ => .bad
  | .tp xs => match i with
    | .fz (.int k) => (match L2.atI xs k with
      | some x => .ok x h
      | none => .bad)
    | _ => .bad
  | .loc n => match h[n]?, i with
    | some (.lst xs), .fz (.int k) => (match L2.atI xs k with
      | some x => .ok x h
      | none => .bad)
    | _, _ => .bad
def dixA (a i : AV) (h : Hc) : RO AV := match a, i with
  | .fz (.dict kvs), .fz (.str x) => (match lkD kvs x with
    | some d => .ok (.fz d) h
    | none => .bad)
  | .loc n, .fz (.str x) => (match h[n]? with
    | some (.dct kvs) => (match lkA kvs x with
      | some y => .ok y h
      | none => .bad)
    | _ => .bad)
  | _, _ => .bad
def dinA (a d : AV) (h : Hc) : RO Bool := match a, d with
  | .fz (.str x), .fz (.dict kvs) => .ok (lkD kvs x).isSome h
  | .fz (.str x), .loc n => (match h[n]? with
    | some (.dct kvs) => .ok (lkA kvs x).isSome h
    | _ => .bad)
  | _, _ => .bad
def dgetA (a k y : AV) (h : Hc) : RO AV := match a, k with
  | .fz (.dict kvs), .fz (.str x) => (match lkD kvs x with
    | some d => .ok (.fz d) h
    | none => .ok y h)
  | .loc n, .fz (.str x) => (match h[n]? with
    | some (.dct kvs) => .ok ((lkA kvs x).getD y) h
    | _ => .bad)
  | _, _ => .bad
def m0A (m : MO0) (a : AV) (h : Hc) : RO AV := match a with
  | .loc n => (match m, h[n]? with
    | .clear, some (.lst _) => .ok (.fz .none) (h.set n (.lst []))
    | .pop, some (.lst xs) => (match xs[xs.length - 1]? with
      | some y => .ok y (h.set n (.lst xs.dropLast))
      | none => .bad)
    | _, _ => .bad)
  | _ => .bad
def m1A (m : MO1) (a b : AV) (h : Hc) : RO AV := match a with
  | .loc n => (match m, h[n]? with
    | .append, some (.lst xs) => if xs.length < 1000000 then .ok (.fz .none) (h.set n (.lst (xs ++ [b]))) else .bad
    | .extend, some (.lst xs) => (match b with
      | .loc m => (match h[m]? with
        | some (.lst ys) => if xs.length + ys.length < 1000000 then .ok (.fz .none) (h.set n (.lst (xs ++ ys))) else .bad
        | _ => .bad)
      | _ => .bad)
    | .dpop, some (.dct kvs) => (match b with
      | .fz (.str x) => (match lkA kvs x with
        | some y => .ok y (h.set n (.dct (dropA kvs x)))
        | none => .bad)
      | _ => .bad)
    | _, _ => .bad)
  | _ => .bad
def m2A (m : MO2) (a b c : AV) (h : Hc) : RO AV := match a, b with
  | .loc n, .fz (.str x) => (match m, h[n]? with
    | .setdefault, some (.dct kvs) => if kvs.length < 1000000 then (match lkA kvs x with
      | some y => .ok y h
      | none => .ok c (h.set n (.dct (kvs ++ [(x, c)])))) else .bad
    | _, _ => .bad)
  | _, _ => .bad
/-- what an argument read all the way gives back, where it holds no list -/
def lfR : RO Dat → RO AV
  | .ok d h => if lfree d then .ok (.fz d) h else .bad
  | .exc c none h => .exc c none h
  | _ => .bad
def rdAll (h : Hc) : List AV → Option (List Dat) := rdL (rd h)
/-- a list of things that stay, as a new cell -/
def trk (d : Dat) (h : Hc) : RO AV := match d with
  | .list ds => .ok (.loc h.length) (h ++ [.lst (ds.map .fz)])
  | _ => .bad
/-- the one part that is a list -/
def trkP : List Dat → Option (List Dat × List Dat × List Dat)
  | [] => none
  | .list ds :: r => if lfrees ds && lfrees r then some ([], ds, r) else none
  | d :: r => if lfree d then (match trkP r with
    | some (p, l, q) => some (d :: p, l, q)
    | none => none) else none
def trkD (d : Dat) (h : Hc) : RO AV := match d with
  | .tuple es => if lfrees es then .ok (.fz (.tuple es)) h else (match trkP es with
    | some (p, l, q) => .ok (.tp (p.map .fz ++ .loc h.length :: q.map .fz)) (h ++ [.lst (l.map .fz)])
    | none => .bad)
  | d => if lfree d then .ok (.fz d) h else .bad
def getX (ρ : Ex) (i : Nat) : Option AV := ρ.getD i none
def unX : List Nat → Ex → Ex
  | [], ρ => ρ
  | i :: is, ρ => (unX is ρ).set i none
def prts (h : Hc) : AV → Option (List AV)
  | .fz (.tuple ds) => some (ds.map .fz)
  | .tp xs => some xs
  | _ => none
def setX (h : Hc) : Tg → AV → Ex → Option Ex
  | .nm i, x, ρ => some (ρ.set i (some x))
  | .tp is, x, ρ => match prts h x with
    | some xs => if xs.length = is.length then some ((is.zip xs).foldl (fun r p => r.set p.1 (some p.2)) ρ) else none
    | none => none
/-- a comprehension: the list that grows is at n -/
def lcD (n : Nat) (f : AV → Hc → RO (Option AV)) : List AV → Hc → RO AV
  | [], h => .ok (.loc n) h
  | x :: xs, h => (f x h).bnd fun o h => match h[n]? with
    | some (.lst acc) => (match o with
      | some y => if acc.length < 1000000 then lcD n f xs (h.set n (.lst (acc ++ [y]))) else .bad
      | none => lcD n f xs h)
    | _ => .bad
@[irreducible] def bigN : Nat := 1000000
/-- .. over the list at k, as it stands at each turn -/
def lcV (k n : Nat) (f : AV → Hc → RO (Option AV)) : Nat → Nat → Hc → RO AV
  | 0, _, _ => .bad
  | c + 1, i, h => match h[k]? with
    | some (.lst xs) => (match xs[i]? with
      | some x => (f x h).bnd fun o h => (match h[n]? with
        | some (.lst acc) => (match o with
          | some y => if acc.length < 1000000 then lcV k n f c (i + 1) (h.set n (.lst (acc ++ [y]))) else .bad
          | none => lcV k n f c (i + 1) h)
        | _ => .bad)
      | none => .ok (.loc n) h)
    | _ => .bad
def noXO {α : Type} : RO α → RO α
  | .ok a h => .ok a h
  | _ => .bad
mutual
def xv (P : Pg) (O : PgO) : XE → Ex → Hc → RO AV
  | .p e, ρ, h => (lft (ev P e (prE h ρ)) h).bnd fun d h => .ok (.fz d) h
  | .t e, ρ, h => (lft (ev P e (prE h ρ)) h).bnd trk
  | .v i, ρ, h => match getX ρ i with
    | some a => .ok a h
    | none => .bad
  | .tup es, ρ, h => (xvs P O es ρ h).bnd fun as h => if as.length ≤ 1000000 then .ok (mkT as) h else .bad
  | .lst es, ρ, h => (xvs P O es ρ h).bnd fun as h => if as.length ≤ 1000000 then .ok (.loc h.length) (h ++ [.lst as]) else .bad
  | .lsz es, ρ, h => (xvs P O es ρ h).bnd fun as h => if as.length ≤ 1000000 then (match fzs as with
    | some ds => .ok (.fz (.list ds)) h
    | none => .bad) else .bad
  | .dc0, _, h => .ok (.loc h.length) (h ++ [.dct []])
  | .dc1 k e, ρ, h => (xv P O k ρ (h ++ [.dct []])).bnd fun x h1 => (xv P O e ρ h1).bnd fun y h2 => match x, h2[h.length]? with
    | .fz (.str s), some (.dct []) => .ok (.loc h.length) (h2.set h.length (.dct [(s, y)]))
    | _, _ => .bad
  | .fld a f, ρ, h => (xv P O a ρ h).bnd fun x h => match x with
    | .loc n => (match h[n]? with
      | some (.obj c fs) => if O.fld c f then (match lkA fs f with
        | some y => .ok y h
        | none => .bad) else .bad
      | _ => .bad)
    | _ => .bad
  | .ix a i, ρ, h => (xv P O a ρ h).bnd fun x h => (xv P O i ρ h).bnd fun y h => ixA x y h
  | .dix a i, ρ, h => (xv P O a ρ h).bnd fun x h => (xv P O i ρ h).bnd fun y h => dixA x y h
  | .bin o a b, ρ, h => (xv P O a ρ h).bnd fun x h => (xv P O b ρ h).bnd fun y h => binA o x y h
  | .cmp o a b, ρ, h => (xv P O a ρ h).bnd fun x h => (xv P O b ρ h).bnd fun y h => (cmpA o x y h).bnd fun r h => .ok (.fz (.bool r)) h
  | .din neg a b, ρ, h => (xv P O a ρ h).bnd fun x h => (xv P O b ρ h).bnd fun y h => (dinA x y h).bnd fun r h => .ok (.fz (.bool (if neg then !r else r))) h
  | .not a, ρ, h => (xv P O a ρ h).bnd fun x h => (lft (truA h x) h).bnd fun r h => .ok (.fz (.bool (!r))) h
  | .and a b, ρ, h => (xv P O a ρ h).bnd fun x h => (lft (truA h x) h).bnd fun r h => match r with
    | true => xv P O b ρ h
    | false => .ok x h
  | .or a b, ρ, h => (xv P O a ρ h).bnd fun x h => (lft (truA h x) h).bnd fun r h => match r with
    | true => .ok x h
    | false => xv P O b ρ h
  | .ife c a b, ρ, h => (xv P O c ρ h).bnd fun x h => (lft (truA h x) h).bnd fun r h => match r with
    | true => xv P O a ρ h
    | false => xv P O b ρ h
  | .cal k es, ρ, h => (xvs P O es ρ h).bnd fun as h => O.F k as h
  | .calf k ws es, ρ, h => (xvs P O es ρ h).bnd fun as h => match flW h ws as with
    | some ds => (lft (P.F k ds) h).bnd fun d h => .ok (.fz d) h
    | none => .bad
  | .cald k es, ρ, h => (xvs P O es ρ h).bnd fun as h => match rdAll h as with
    | some ds => lfR (lft (P.F k ds) h)
    | none => .bad
  | .calt k es, ρ, h => (xvs P O es ρ h).bnd fun as h => match rdAll h as with
    | some ds => (match P.F k ds with
      | .ok d => trkD d h
      | .exc c none => .exc c none h
      | _ => .bad)
    | none => .bad
  | .bi f es, ρ, h => (xvs P O es ρ h).bnd fun as h => match flL h as with
    | some ds => (lft (biD f ds) h).bnd fun d h => .ok (.fz d) h
    | none => .bad
  | .len a, ρ, h => (xv P O a ρ h).bnd fun x h => lenA x h
  | .isi t a, ρ, h => (xv P O a ρ h).bnd fun x h => match rd h x with
    | some d => (lft (isiD t d) h).bnd fun r h => .ok (.fz (.bool r)) h
    | none => .bad
  | .m0 m a, ρ, h => (xv P O a ρ h).bnd fun x h => m0A m x h
  | .m1 m a b, ρ, h => (xv P O a ρ h).bnd fun x h => if recv m h x then (xv P O b ρ h).bnd fun y h => m1A m x y h else .bad
  | .m2 m a b c, ρ, h => (xv P O a ρ h).bnd fun x h => if isDA h x then (xv P O b ρ h).bnd fun y h => (xv P O c ρ h).bnd fun z h => m2A m x y z h else .bad
  | .dget a b c, ρ, h => (xv P O a ρ h).bnd fun x h => if isDA h x then (xv P O b ρ h).bnd fun y h => (xv P O c ρ h).bnd fun z h => dgetA x y z h else .bad
  | .mcl c m k a es, ρ, h => (xv P O a ρ h).bnd fun x h => match x with
    | .loc n => (match h[n]? with
      | some (.obj c' fs) => if c' = c ∧ lkA fs m = none then (xvs P O es ρ h).bnd fun as h => O.F k (.loc n :: as) h else .bad
      | _ => .bad)
    | _ => .bad
  | .new c k es, ρ, h => (xvs P O es ρ h).bnd fun as h => (O.F k (.loc h.length :: as) (h ++ [.obj c []])).bnd fun r h' => match r with
    | .fz .none => .ok (.loc h.length) h'
    | _ => .bad
  | .frz a, ρ, h => (xv P O a ρ h).bnd fun x h => match frz x h with
    | some (d, h') => .ok (.fz d) h'
    | none => .bad
  | .lc own tg (.p it) tt elt, ρ, h => (lft (evI P it (prE h ρ)) h).bnd fun ds h => if ds.length ≤ 1000000 then
      lcD h.length (fun x h => noXO (match setX h tg x (unX own ρ) with
        | some ρ1 => (xv P O tt ρ1 h).bnd fun t h => (lft (truA h t) h).bnd fun r h => match r with
          | true => (xv P O elt ρ1 h).bnd fun y h => .ok (some y) h
          | false => .ok none h
        | none => .bad)) (ds.map .fz) (h ++ [.lst []]) else .bad
  | .lc own tg (.x e) tt elt, ρ, h => (xv P O e ρ h).bnd fun x h => match x with
    | .loc k => lcV k h.length (fun x h => noXO (match setX h tg x (unX own ρ) with
        | some ρ1 => (xv P O tt ρ1 h).bnd fun t h => (lft (truA h t) h).bnd fun r h => match r with
          | true => (xv P O elt ρ1 h).bnd fun y h => .ok (some y) h
          | false => .ok none h
        | none => .bad)) bigN 0 (h ++ [.lst []])
    | _ => .bad
def xvs (P : Pg) (O : PgO) : XEs → Ex → Hc → RO (List AV)
  | .nil, _, h => .ok [] h
  | .cons e r, ρ, h => (xv P O e ρ h).bnd fun x h => (xvs P O r ρ h).bnd fun xs h => .ok (x :: xs) h
end

/-! ### statements -/
inductive OX where
  | nx (ρ : Ex) (h : Hc) | ct (ρ : Ex) (h : Hc) | ret (a : AV) (h : Hc) | exc (c : Str) (x : Option Dat) (h : Hc) | bad
def OX.of {α : Type} (r : RO α) (f : α → Hc → OX) : OX := match r with
  | .ok a h => f a h
  | .exc c x h => .exc c x h
  | .bad => .bad
@[simp] theorem ox_ok {α : Type} (a : α) (h : Hc) (f : α → Hc → OX) : OX.of (.ok a h) f = f a h := nrfl rfl
@[simp] theorem ox_exc {α : Type} (c : Str) (x : Option Dat) (h : Hc) (f : α → Hc → OX) : OX.of (.exc c x h : RO α) f = .exc c x h := nrfl rfl
@[simp] theorem ox_bad {α : Type} (f : α → Hc → OX) : OX.of (.bad : RO α) f = .bad := nrfl rfl
def OX.thn (o : OX) (f : Ex → Hc → OX) : OX := match o with
  | .nx ρ h => f ρ h
  | o => o
@[simp] theorem ox_thn_nx (ρ : Ex) (h : Hc) (f : Ex → Hc → OX) : (OX.nx ρ h).thn f = f ρ h := nrfl rfl
@[simp] theorem ox_thn_ct (ρ : Ex) (h : Hc) (f : Ex → Hc → OX) : (OX.ct ρ h).thn f = .ct ρ h := nrfl rfl
@[simp] theorem ox_thn_ret (a : AV) (h : Hc) (f : Ex → Hc → OX) : (OX.ret a h).thn f = .ret a h := nrfl rfl
@[simp] theorem ox_thn_exc (c : Str) (x : Option Dat) (h : Hc) (f : Ex → Hc → OX) : (OX.exc c x h).thn f = .exc c x h := nrfl rfl
@[simp] theorem ox_thn_bad (f : Ex → Hc → OX) : (OX.bad).thn f = .bad := nrfl rfl
def OX.turn (o : OX) (f : Ex → Hc → OX) : OX := match o with
  | .nx ρ h => f ρ h
  | .ct ρ h => f ρ h
  | o => o
@[simp] theorem ox_turn_nx (ρ : Ex) (h : Hc) (f : Ex → Hc → OX) : (OX.nx ρ h).turn f = f ρ h := nrfl rfl
@[simp] theorem ox_turn_ct (ρ : Ex) (h : Hc) (f : Ex → Hc → OX) : (OX.ct ρ h).turn f = f ρ h := nrfl rfl
@[simp] theorem ox_turn_ret (a : AV) (h : Hc) (f : Ex → Hc → OX) : (OX.ret a h).turn f = .ret a h := nrfl rfl
@[simp] theorem ox_turn_exc (c : Str) (x : Option Dat) (h : Hc) (f : Ex → Hc → OX) : (OX.exc c x h).turn f = .exc c x h := nrfl rfl
@[simp] theorem ox_turn_bad (f : Ex → Hc → OX) : (OX.bad).turn f = .bad := nrfl rfl
mutual
inductive SX where
  | set (i : Nat) (e : XE)
  | tup (is : List Nat) (e : XE)
  | expr (e : XE)
  | setf (a : XE) (f : Str) (e : XE)
  | seti (a i e : XE)
  | setd (a i e : XE)
  | ifs (c : XE) (a b : SXs)
  | for_ (tmp : List Nat) (tg : Tg) (it : IX) (body : SXs)
  | whil (fuel : Ex → Hc → Nat) (tmp : List Nat) (c : XE) (body : SXs)
  | ret (e : XE) | retN
  | pass | cont
  | rais (c : Str)
inductive SXs where
  | nil | cons (s : SX) (r : SXs) | fz (i : Nat) (r : SXs)
end
def tstX (P : Pg) (O : PgO) (c : XE) (ρ : Ex) (h : Hc) : RO Bool := (xv P O c ρ h).bnd fun x h => lft (truA h x) h
/-- over things that are known -/
def forX (tmp : List Nat) (f : AV → Ex → Hc → OX) : List AV → Ex → Hc → OX
  | [], ρ, h => .nx (unX tmp ρ) h
  | x :: xs, ρ, h => (f x (unX tmp ρ) h).turn (forX tmp f xs)
/-- over a list as it stands at each turn -/
def forV (n : Nat) (tmp : List Nat) (f : AV → Ex → Hc → OX) : Nat → Nat → Ex → Hc → OX
  | 0, _, _, _ => .bad
  | k + 1, i, ρ, h => match h[n]? with
    | some (.lst xs) => (match xs[i]? with
      | some x => (f x (unX tmp ρ) h).turn (forV n tmp f k (i + 1))
      | none => .nx (unX tmp ρ) h)
    | _ => .bad
def whX (tmp : List Nat) (c : Ex → Hc → RO Bool) (f : Ex → Hc → OX) : Nat → Ex → Hc → OX
  | 0, _, _ => .bad
  | n + 1, ρ, h => OX.of (c (unX tmp ρ) h) fun b h => match b with
    | true => (f (unX tmp ρ) h).turn (whX tmp c f n)
    | false => .nx (unX tmp ρ) h
def setiA (a i y : AV) (h : Hc) : Option Hc := match a, i with
  | .loc n, .fz (.int k) => (match h[n]? with
    | some (.lst xs) => (match L2.ixN xs.length k with
      | some j => some (h.set n (.lst (xs.set j y)))
      | none => none)
    | _ => none)
  | _, _ => none
def setdA (a i y : AV) (h : Hc) : Option Hc := match a, i with
  | .loc n, .fz (.str x) => (match h[n]? with
    | some (.dct kvs) => if kvs.length < 1000000 then some (h.set n (.dct (putA kvs x y))) else none
    | _ => none)
  | _, _ => none
def setfA (O : PgO) (a : AV) (f : Str) (y : AV) (h : Hc) : Option Hc := match a with
  | .loc n => (match h[n]? with
    | some (.obj c fs) => if O.fld c f = true ∧ fs.length < 1000 then some (h.set n (.obj c (putA fs f y))) else none
    | _ => none)
  | _ => none
def opt (o : Option Hc) (f : Hc → OX) : OX := match o with
  | some h => f h
  | none => .bad
mutual
def exX (P : Pg) (O : PgO) : SX → Ex → Hc → OX
  | .set i e, ρ, h => OX.of (xv P O e ρ h) fun x h => .nx (ρ.set i (some x)) h
  | .tup is e, ρ, h => OX.of (xv P O e ρ h) fun x h => match setX h (.tp is) x ρ with
    | some ρ => .nx ρ h
    | none => .bad
  | .expr e, ρ, h => OX.of (xv P O e ρ h) fun _ h => .nx ρ h
  | .setf a f e, ρ, h => OX.of (xv P O e ρ h) fun y h => OX.of (xv P O a ρ h) fun x h => opt (setfA O x f y h) (.nx ρ)
  | .seti a i e, ρ, h => OX.of (xv P O e ρ h) fun y h => OX.of (xv P O a ρ h) fun x h => OX.of (xv P O i ρ h) fun z h => opt (setiA x z y h) (.nx ρ)
  | .setd a i e, ρ, h => OX.of (xv P O e ρ h) fun y h => OX.of (xv P O a ρ h) fun x h => OX.of (xv P O i ρ h) fun z h => opt (setdA x z y h) (.nx ρ)
  | .ifs c a b, ρ, h => OX.of (tstX P O c ρ h) fun r h => match r with
    | true => exXs P O a ρ h
    | false => exXs P O b ρ h
  | .for_ tmp tg (.p it) body, ρ, h => OX.of ((lft (evI P it (prE h ρ)) h).bnd fun ds h => .ok (ds.map .fz) h) fun xs h => forX tmp (fun x ρ h => match setX h tg x ρ with
      | some ρ => exXs P O body ρ h
      | none => .bad) xs ρ h
  | .for_ tmp tg (.x e) body, ρ, h => OX.of (xv P O e ρ h) fun x h => match x with
    | .loc n => forV n tmp (fun x ρ h => match setX h tg x ρ with
      | some ρ => exXs P O body ρ h
      | none => .bad) bigN 0 ρ h
    | _ => .bad
  | .whil fuel tmp c body, ρ, h => whX tmp (tstX P O c) (exXs P O body) (fuel ρ h) ρ h
  | .ret e, ρ, h => OX.of (xv P O e ρ h) .ret
  | .retN, _, h => .ret (.fz .none) h
  | .pass, ρ, h => .nx ρ h
  | .cont, ρ, h => .ct ρ h
  | .rais c, _, h => .exc c none h
def exXs (P : Pg) (O : PgO) : SXs → Ex → Hc → OX
  | .nil, ρ, h => .nx ρ h
  | .cons s r, ρ, h => (exX P O s ρ h).thn (exXs P O r)
  | .fz i r, ρ, h => match getX ρ i with
    | some x => (match frz x h with
      | some (d, h') => exXs P O r (ρ.set i (some (.fz d))) h'
      | none => .bad)
    | none => .bad
end
/-- a def as a whole: n slots -/
def runX (P : Pg) (O : PgO) (n : Nat) (body : SXs) (as : List AV) (h : Hc) : RO AV :=
  match exXs P O body (as.map some ++ List.replicate (n - as.length) none) h with
  | .ret a h => .ok a h
  | .nx _ h => .ok (.fz .none) h
  | .exc c x h => .exc c x h
  | _ => .bad
end NW
end

section
set_option maxHeartbeats 4000000
/-! The readings over cells. -/
namespace NW
open PySem PySem.Spec PyProof.Rows L2

/-! ### slots -/
structure EvR (K : PySem.W.Frag) (G : Hp) (μ : List Addr) (ρ : Ex) (σ : L2.St) : Prop where
  len : ρ.length = σ.length
  at_ : ∀ (i : Nat) (a : AV), ρ[i]? = some (some a) → ∃ v, σ[i]? = some (some v) ∧ AVR K G μ v a
theorem EvR.mono {K : PySem.W.Frag} {G G' : Hp} {μ μ' : List Addr} {ρ : Ex} {σ : L2.St} (l : Le G μ G' μ') (e : EvR K G μ ρ σ) : EvR K G' μ' ρ σ :=
  ⟨e.len, fun i a h => let ⟨v, h1, h2⟩ := e.at_ i a h; ⟨v, h1, h2.mono l⟩⟩
theorem EvR.get {K : PySem.W.Frag} {G : Hp} {μ : List Addr} {ρ : Ex} {σ : L2.St} (e : EvR K G μ ρ σ) {i : Nat} {a : AV} (h : getX ρ i = some a) : ∃ v, σ[i]? = some (some v) ∧ AVR K G μ v a := by
  refine e.at_ i a ?_
  unfold getX at h
  rw [List.getD_eq_getElem?_getD] at h
  cases q : ρ[i]? with
  | none => rw [q] at h; simp at h
  | some o => rw [q] at h; simp at h; rw [h]
section
variable {K : PySem.W.Frag} {mg : Str → Option Value} {G G' H H' : Hp} {μ μ' : List Addr} {h : Hc} {ρ : Ex} {σ : L2.St}
/-- what data see -/
theorem EvR.er (t : Ht K mg G μ h H) (e : EvR K G μ ρ σ) : ER K G (prE h ρ) σ H G := by
  refine ⟨t.sub, t.sub, by simp [prE, e.len], fun i s q => ?_⟩
  unfold prE at q
  rw [List.getElem?_map] at q
  cases q1 : ρ[i]? with
  | none => rw [q1] at q; cases q
  | some o =>
    rw [q1] at q
    simp only [Option.map_some, Option.some.injEq] at q
    have hi : i < σ.length := by
      rw [← e.len]
      exact (List.getElem?_eq_some_iff.mp q1).1
    have un : s = .un → ∃ o, σ[i]? = some o ∧ SlR K G H G s o := fun z => by
      subst z
      exact ⟨σ[i], List.getElem?_eq_getElem hi, trivial⟩
    cases o with
    | none => exact un q.symm
    | some a =>
      obtain ⟨v, h1, h2⟩ := e.at_ i a q1
      cases a with
      | fz d =>
        simp only [prj] at q
        subst q
        cases h2 with | fz r => exact ⟨_, h1, v, rfl, r⟩
      | tp xs => exact un q.symm
      | loc n =>
        simp only [prj] at q
        cases q2 : h[n]? with
        | none => rw [q2] at q; exact un q.symm
        | some c =>
          rw [q2] at q
          cases c with
          | lst xs =>
            simp only at q
            cases q3 : fzs xs with
            | none => rw [q3] at q; exact un q.symm
            | some ds =>
              rw [q3] at q
              simp only at q
              subst q
              obtain ⟨a, vs, rfl, e2, e3, e4, e5⟩ := t.lst q2 h2
              exact ⟨_, h1, a, vs, rfl, e4, e3, fzs_reps e5 q3⟩
          | _ => exact un q.symm
/-- what comes of a run -/
def EndR {α : Type} (X : Cx) (W : WX) (σ : L2.St) (G : Hp) (μ : List Addr) (R : Hp → List Addr → Hp → α → Prop) : RO α → Prop
  | .ok a h' => ∀ H' G' μ', Le G μ G' μ' → Ht X.K X.mg G' μ' h' H' → R G' μ' H' a
  | .exc c x h' => ∀ cls dx H' G' μ', Le G μ G' μ' → Ht X.K X.mg G' μ' h' H' → XR X.K X.mg H' G' cls dx c x → W cls dx σ H'
  | .bad => False
theorem EndR.on {α : Type} {X : Cx} {W : WX} {R : Hp → List Addr → Hp → α → Prop} {r : RO α} (l : Le G μ G' μ') (q : EndR X W σ G μ R r) : EndR X W σ G' μ' R r := by
  cases r with
  | ok a h' => exact fun H1 G1 μ1 l1 t => q H1 G1 μ1 (l.trans l1) t
  | exc c x h' => exact fun cls dx H1 G1 μ1 l1 t => q cls dx H1 G1 μ1 (l.trans l1) t
  | bad => exact q
abbrev RV (X : Cx) (Q : VK) : Hp → List Addr → Hp → AV → Prop := fun G' μ' H' x => ∀ v, AVR X.K G' μ' v x → Q v H'
abbrev RVs (X : Cx) (Q : List V → Hp → Prop) : Hp → List Addr → Hp → List AV → Prop := fun G' μ' H' xs => ∀ vs, AVRs X.K G' μ' vs xs → Q vs H'
abbrev RB (Q : Bool → Hp → Prop) : Hp → List Addr → Hp → Bool → Prop := fun _ _ H' b => Q b H'
end
section
variable {X : Cx} {P : Pg} {O : PgO} {W : WX}
def tX (X : Cx) (P : Pg) (O : PgO) (W : WX) (e : XE) : TE := fun σ H Q => ∃ G μ h ρ, Ht X.K X.mg G μ h H ∧ EvR X.K G μ ρ σ ∧ EndR X W σ G μ (RV X Q) (xv P O e ρ h)
def tXs (X : Cx) (P : Pg) (O : PgO) (W : WX) (es : XEs) : TA := fun σ H Q => ∃ G μ h ρ, Ht X.K X.mg G μ h H ∧ EvR X.K G μ ρ σ ∧ EndR X W σ G μ (RVs X Q) (xvs P O es ρ h)
def tXT (X : Cx) (P : Pg) (O : PgO) (W : WX) (e : XE) : TT := fun σ H Q => ∃ G μ h ρ, Ht X.K X.mg G μ h H ∧ EvR X.K G μ ρ σ ∧ EndR X W σ G μ (RB Q) (tstX P O e ρ h)
variable {G G' H H' : Hp} {μ μ' : List Addr} {h : Hc} {ρ : Ex} {σ : L2.St} {Q : VK}
/-- a term, then what is done with its value -/
theorem bndX {β : Type} {a : XE} {f : AV → Hc → RO β} {R : Hp → List Addr → Hp → β → Prop} {Q' : VK} (t : Ht X.K X.mg G μ h H) (e : EvR X.K G μ ρ σ) (q : EndR X W σ G μ R ((xv P O a ρ h).bnd f))
    (c : ∀ x v h1 H1 G1 μ1, Le G μ G1 μ1 → Ht X.K X.mg G1 μ1 h1 H1 → EvR X.K G1 μ1 ρ σ → AVR X.K G1 μ1 v x → EndR X W σ G1 μ1 R (f x h1) → Q' v H1) : tX X P O W a σ H Q' := by
  refine ⟨G, μ, h, ρ, t, e, ?_⟩
  cases z : xv P O a ρ h with
  | ok x h1 => rw [z] at q; exact fun H1 G1 μ1 l t1 v r => c x v h1 H1 G1 μ1 l t1 (e.mono l) r (q.on l)
  | exc c x h1 => rw [z] at q; exact q
  | bad => rw [z] at q; exact q
theorem bndXs {β : Type} {es : XEs} {f : List AV → Hc → RO β} {R : Hp → List Addr → Hp → β → Prop} {Q' : List V → Hp → Prop} (t : Ht X.K X.mg G μ h H) (e : EvR X.K G μ ρ σ) (q : EndR X W σ G μ R ((xvs P O es ρ h).bnd f))
    (c : ∀ xs vs h1 H1 G1 μ1, xvs P O es ρ h = .ok xs h1 → Le G μ G1 μ1 → Ht X.K X.mg G1 μ1 h1 H1 → EvR X.K G1 μ1 ρ σ → AVRs X.K G1 μ1 vs xs → EndR X W σ G1 μ1 R (f xs h1) → Q' vs H1) : tXs X P O W es σ H Q' := by
  refine ⟨G, μ, h, ρ, t, e, ?_⟩
  cases z : xvs P O es ρ h with
  | ok x h1 => rw [z] at q; exact fun H1 G1 μ1 l t1 v r => c x v h1 H1 G1 μ1 z l t1 (e.mono l) r (q.on l)
  | exc c x h1 => rw [z] at q; exact q
  | bad => rw [z] at q; exact q
theorem bndT' {β : Type} {a : XE} {f : Bool → Hc → RO β} {R : Hp → List Addr → Hp → β → Prop} {Q' : Bool → Hp → Prop} (t : Ht X.K X.mg G μ h H) (e : EvR X.K G μ ρ σ) (q : EndR X W σ G μ R ((tstX P O a ρ h).bnd f))
    (c : ∀ b h1 H1 G1 μ1, Le G μ G1 μ1 → Ht X.K X.mg G1 μ1 h1 H1 → EvR X.K G1 μ1 ρ σ → EndR X W σ G1 μ1 R (f b h1) → Q' b H1) : tXT X P O W a σ H Q' := by
  refine ⟨G, μ, h, ρ, t, e, ?_⟩
  cases z : tstX P O a ρ h with
  | ok x h1 => rw [z] at q; exact fun H1 G1 μ1 l t1 => c x h1 H1 G1 μ1 l t1 (e.mono l) (q.on l)
  | exc c x h1 => rw [z] at q; exact q
  | bad => rw [z] at q; exact q
/-- the end: the value is known -/
theorem EndR.fin {α : Type} {R : Hp → List Addr → Hp → α → Prop} {a : α} (q : EndR X W σ G μ R (.ok a h)) (t : Ht X.K X.mg G μ h H) : R G μ H a := q H G μ (Le.refl G μ) t
/-- a value that stays -/
theorem EndR.toFin {d : Dat} (q : EndR X W σ G μ (RV X Q) (.ok (.fz d) h)) (t : Ht X.K X.mg G μ h H) : Fin X.K H G Q d :=
  fun v H' G' x r => q H' G' μ ⟨x.stl, List.prefix_refl μ⟩ (t.ext x) v (.fz r)
theorem lft_op {r : Res Dat} (ne : ∀ c x, r ≠ .exc c x) (q : EndR X W σ G μ (RV X Q) ((lft r h).bnd fun d h => .ok (.fz d) h)) (t : Ht X.K X.mg G μ h H) : ∃ d, r = .ok d ∧ Fin X.K H G Q d := by
  cases r with
  | ok d => exact ⟨d, rfl, EndR.toFin q t⟩
  | exc c x => exact absurd rfl (ne c x)
  | bad => exact q.elim

/-! ### terms -/
variable {x y z : Expr} {pos : Pos} {a b c : XE}
theorem x_p {e : E} (hx : PE X x (tK X P W 0 e)) : PE X x (tX X P O W (.p e)) :=
  PE.imp hx fun σ H Q ⟨G, μ, h, ρ, t, er, q⟩ => by
    simp only [xv] at q
    refine ⟨G, G, prE h ρ, er.er t, ?_⟩
    cases z : ev P e (prE h ρ) with
    | ok d => rw [z] at q; exact EndR.toFin q t
    | exc c y => rw [z] at q; exact fun cls dx H' G' w r => q cls dx H' G' μ ⟨w.stl, List.prefix_refl μ⟩ (t.ext w) r
    | bad => rw [z] at q; exact q
theorem x_pT {e : E} (hx : PT X x (tT X P W e)) (hd : ∀ ρ h, truA h (.fz ρ) = truD ρ := fun _ _ => rfl) : PT X x (tXT X P O W (.p e)) :=
  PT.imp hx fun σ H Q ⟨G, μ, h, ρ, t, er, q⟩ => by
    simp only [tstX, xv] at q
    refine ⟨G, G, prE h ρ, er.er t, ?_⟩
    cases z : ev P e (prE h ρ) with
    | ok d =>
      rw [z] at q
      simp only [lft_ok, bnd_ok, truA] at q
      simp only [ok_bind]
      cases z2 : truD d with
      | ok b => rw [z2] at q; exact fun H' G' w => q H' G' μ ⟨w.stl, List.prefix_refl μ⟩ (t.ext w)
      | exc c y => rw [z2] at q; exact fun cls dx H' G' w r => q cls dx H' G' μ ⟨w.stl, List.prefix_refl μ⟩ (t.ext w) r
      | bad => rw [z2] at q; exact q
    | exc c y => rw [z] at q; exact fun cls dx H' G' w r => q cls dx H' G' μ ⟨w.stl, List.prefix_refl μ⟩ (t.ext w) r
    | bad => rw [z] at q; exact q
theorem x_pW {e : E} (hx : PW X x (tT X P W e)) : PW X x (tXT X P O W (.p e)) :=
  PW.imp hx fun σ H Q ⟨G, μ, h, ρ, t, er, q⟩ => by
    simp only [tstX, xv] at q
    refine ⟨G, G, prE h ρ, er.er t, ?_⟩
    cases z : ev P e (prE h ρ) with
    | ok d =>
      rw [z] at q
      simp only [lft_ok, bnd_ok, truA] at q
      simp only [ok_bind]
      cases z2 : truD d with
      | ok b => rw [z2] at q; exact fun H' G' w => q H' G' μ ⟨w.stl, List.prefix_refl μ⟩ (t.ext w)
      | exc c y => rw [z2] at q; exact fun cls dx H' G' w r => q cls dx H' G' μ ⟨w.stl, List.prefix_refl μ⟩ (t.ext w) r
      | bad => rw [z2] at q; exact q
    | exc c y => rw [z] at q; exact fun cls dx H' G' w r => q cls dx H' G' μ ⟨w.stl, List.prefix_refl μ⟩ (t.ext w) r
    | bad => rw [z] at q; exact q
/-- a new list, tracked beside what stands -/
theorem Ht.laid {K : PySem.W.Frag} {mg : Str → Option Value} (t : Ht K mg G μ h H) {G1 H1 : Hp} (w : Ext H G H1 G1) {a : Addr} {c : Cell} {o : HO} (na : H a = none) (ga : G1 a = none) (ha : H1 a = some o) (r : CR K mg G1 (μ ++ [a]) c o) : Ht K mg G1 (μ ++ [a]) (h ++ [c]) H1 := by
  have t1 := t.ext w
  have pn : a ∉ μ := fun z => t.dom a z na
  refine ⟨t1.sub, by simp [t.len], ?_, fun b hb => ?_, fun n d e ne => ?_⟩
  · rw [List.nodup_append]
    refine ⟨t.nd, by simp, fun u hu b hb => ?_⟩
    rw [List.mem_singleton] at hb
    subst hb
    exact fun z => pn (z ▸ hu)
  · rcases List.mem_append.mp hb with z | z
    · exact t1.dom b z
    · rw [List.mem_singleton.mp z, ha]; simp
  · by_cases hn : n < h.length
    · rw [List.getElem?_append_left hn] at e
      obtain ⟨b, o', h1, h2, h3, h4⟩ := t1.at_ n d e ne
      exact ⟨b, o', pre_get (List.prefix_append _ _) h1, h2, h3, h4.mono ⟨Same.refl G1, List.prefix_append _ _⟩⟩
    · rw [List.getElem?_append_right (by omega)] at e
      have hz : n - h.length = 0 := by
        cases q : n - h.length with
        | zero => rfl
        | succ k => rw [q] at e; simp at e
      rw [hz] at e
      simp at e
      subst e
      refine ⟨a, o, ?_, ga, ha, r⟩
      rw [List.getElem?_append_right (by rw [t.len]; omega), t.len, hz]
      rfl
theorem x_t {e : E} (hx : PE X x (tK X P W 2 e)) : PE X x (tX X P O W (.t e)) :=
  PE.imp hx fun σ H Q ⟨G, μ, h, ρ, t, er, q⟩ => by
    simp only [xv] at q
    refine ⟨G, G, prE h ρ, er.er t, ?_⟩
    cases z : ev P e (prE h ρ) with
    | ok d =>
      rw [z] at q
      simp only [lft_ok, bnd_ok] at q
      intro v H' G' w r
      obtain ⟨a, vs, ds, rfl, rfl, na, ga, ha, rr⟩ := r
      simp only [trk] at q
      exact q H' G' (μ ++ [a]) ⟨w.stl, List.prefix_append _ _⟩ (t.laid w na ga ha ⟨vs, rfl, reps_fzs rr⟩) _ (.loc t.last)
    | exc c y => rw [z] at q; exact fun cls dx H' G' w r => q cls dx H' G' μ ⟨w.stl, List.prefix_refl μ⟩ (t.ext w) r
    | bad => rw [z] at q; exact q
theorem x_v {i : Nat} {nm : Str} (h1 : X.N[i]? = some nm) (h2 : visB X.env.scope nm = true) (h3 : okN nm = true) : PE X (.Name nm pos) (tX X P O W (.v i)) :=
  PE.imp (pe_var h1 (vis_of h2) (okN_d h3) (okN_c h3)) fun σ H Q ⟨G, μ, h, ρ, t, er, q⟩ => by
    simp only [xv] at q
    cases z : getX ρ i with
    | none => rw [z] at q; exact q.elim
    | some a =>
      rw [z] at q
      obtain ⟨v, e1, e2⟩ := er.get z
      exact ⟨v, e1, q.fin t v e2⟩
theorem mkT_r {K : PySem.W.Frag} {p : Addr} {vs : List V} {xs : List AV} (q : SqT K G p vs) (r : AVRs K G μ vs xs) : AVR K G μ (.ref p) (mkT xs) := by
  unfold mkT
  cases z : fzs xs with
  | none => exact .tp q r
  | some ds => exact .fz (.tup q (fzs_reps r z))
theorem x_tup {xs : List Expr} {es : XEs} {k : Nat} (hx : PA X xs (tXs X P O W es)) : PE X (.Tuple xs k pos) (tX X P O W (.tup es)) :=
  PE.imp (pe_tup hx) fun σ H Q ⟨G, μ, h, ρ, t, er, q⟩ => by
    simp only [xv] at q
    refine bndXs t er q fun xs vs h1 H1 G1 μ1 _ l1 t1 er1 r1 q1 => ?_
    split at q1
    · rename_i hz
      refine ⟨le_line (by rw [r1.length]; exact hz), fun p np => ?_⟩
      have w := Ext.made t1.sub np (.tup vs)
      exact q1 _ _ μ1 ⟨w.stl, List.prefix_refl _⟩ (t1.ext w) _ (mkT_r (SqT.of upd_same) (r1.mono ⟨w.stl, List.prefix_refl _⟩))
    · exact q1.elim
theorem x_lst {xs : List Expr} {es : XEs} (hx : PA X xs (tXs X P O W es)) : PE X (.List xs pos) (tX X P O W (.lst es)) :=
  PE.imp (pe_lst hx) fun σ H Q ⟨G, μ, h, ρ, t, er, q⟩ => by
    simp only [xv] at q
    refine bndXs t er q fun xs vs h1 H1 G1 μ1 _ l1 t1 er1 r1 q1 => ?_
    split at q1
    · rename_i hz
      refine ⟨le_line (by rw [r1.length]; exact hz), fun p np => ?_⟩
      exact q1 _ _ (μ1 ++ [p]) (Le.new G1 μ1 p) (t1.new np ⟨vs, rfl, r1.mono (Le.new G1 μ1 p)⟩) _ (.loc t1.last)
    · exact q1.elim
theorem x_lsz {xs : List Expr} {es : XEs} (hx : PA X xs (tXs X P O W es)) : PE X (.List xs pos) (tX X P O W (.lsz es)) :=
  PE.imp (pe_lst hx) fun σ H Q ⟨G, μ, h, ρ, t, er, q⟩ => by
    simp only [xv] at q
    refine bndXs t er q fun xs vs h1 H1 G1 μ1 _ l1 t1 er1 r1 q1 => ?_
    split at q1
    · rename_i hz
      refine ⟨le_line (by rw [r1.length]; exact hz), fun p np => ?_⟩
      cases e : fzs xs with
      | none => rw [e] at q1; exact q1.elim
      | some ds =>
        rw [e] at q1
        exact (New.still (q1.toFin t1)).lst t1.sub (fzs_reps r1 e) p np
    · exact q1.elim
theorem x_dc0 : PE X (.Dict [] [] pos) (tX X P O W .dc0) :=
  PE.imp pe_dnewK fun σ H Q ⟨G, μ, h, ρ, t, er, q⟩ p np => by
    simp only [xv] at q
    exact q _ _ (μ ++ [p]) (Le.new G μ p) (t.new np ⟨[], rfl, rfl, .nil⟩) _ (.loc t.last)
theorem x_dc1 (ha : PE X x (tX X P O W a)) (hb : PE X y (tX X P O W b)) : PE X (.Dict [some x] [y] pos) (tX X P O W (.dc1 a b)) :=
  PE.imp (pe_disp (pps_cons ha hb pps_nil) rfl rfl (by simp) (by simp)) fun σ H Q ⟨G, μ, h, ρ, t, er, q⟩ p np => by
    simp only [xv] at q
    have l0 := Le.new G μ p
    have t0 := t.new (c := .dct []) (o := .dK []) np ⟨[], rfl, rfl, .nil⟩
    have ep : (μ ++ [p])[h.length]? = some p := t.last
    refine bndX t0 (er.mono l0) (q.on l0) fun s v h1 H1 G1 μ1 l1 t1 er1 r1 q1 => ?_
    refine bndX t1 er1 q1 fun u w h2 H2 G2 μ2 l2 t2 er2 r2 q2 => ?_
    have e2 := pre_get (l1.trans l2).2 ep
    split at q2
    · rename_i s hc
      obtain ⟨a, o, ea, h2', h3, h4, ws, rfl, h5, h6⟩ := t2.cell (v := .ref p) hc (by simp) (.loc e2)
      cases ea
      cases ws with
      | cons _ _ => simp at h5
      | nil =>
        cases r1 with
        | fz r1 =>
          cases r1
          refine ⟨h4, [(.inr s, w)], rfl, by simp, ?_⟩
          have e0 : mergeK [] [((.inr s : Key), w)] = [(.inr s, w)] := rfl
          rw [e0]
          exact q2 _ _ μ2 (Le.refl _ _) (t2.set hc (by simp) e2 ⟨[(.inr s, w)], rfl, rfl, .cons r2 .nil⟩) _ (.loc e2)
    · exact q2.elim
end
end NW
end

section
set_option maxHeartbeats 4000000
/-! The readings over cells: operations. -/
namespace NW
open PySem PySem.Spec PyProof.Rows L2

section
variable {K : PySem.W.Frag} {mg : Str → Option Value} {G G' H H' : Hp} {μ μ' : List Addr} {h : Hc}
theorem lkA_val {x : Str} : ∀ {ws : List (Key × V)} {kvs : List (Str × AV)}, ws.map (·.1) = kvs.map (fun p => (.inr p.1 : Key)) → AVRs K G μ (ws.map (·.2)) (kvs.map (·.2)) →
    (∃ v y, valV ws (.inr x) = some v ∧ lkA kvs x = some y ∧ AVR K G μ v y) ∨ (valV ws (.inr x) = none ∧ lkA kvs x = none)
  | [], [], _, _ => .inr ⟨rfl, rfl⟩
  | [], _ :: _, e, _ => by simp at e
  | _ :: _, [], e, _ => by simp at e
  | (k, v) :: ws, (y, a) :: kvs, e, r => by
    simp only [List.map_cons, List.cons.injEq] at e
    obtain ⟨e1, e2⟩ := e
    subst e1
    cases r with
    | cons r t =>
      by_cases q : y = x
      · subst q
        exact .inl ⟨v, a, valV_pos rfl, by simp [lkA], r⟩
      · have ne : ¬ (Sum.inr y : Key) = .inr x := fun z => q (Sum.inr.inj z)
        rcases lkA_val (x := x) e2 t with ⟨v, y, h1, h2, h3⟩ | ⟨h1, h2⟩
        · exact .inl ⟨v, y, by rw [valV_neg ne]; exact h1, by simp only [lkA, if_neg q]; exact h2, h3⟩
        · exact .inr ⟨by rw [valV_neg ne]; exact h1, by simp only [lkA, if_neg q]; exact h2⟩
theorem map_put {x : Str} {v : V} {y : AV} (rv : AVR K G μ v y) : ∀ {ws : List (Key × V)} {kvs : List (Str × AV)}, ws.map (·.1) = kvs.map (fun p => (.inr p.1 : Key)) → AVRs K G μ (ws.map (·.2)) (kvs.map (·.2)) →
    (ws.map fun kv => if kv.1 = (.inr x : Key) then (kv.1, v) else kv).map (·.1) = (kvs.map fun kv => if kv.1 = x then (kv.1, y) else kv).map (fun p => (.inr p.1 : Key)) ∧
    AVRs K G μ ((ws.map fun kv => if kv.1 = (.inr x : Key) then (kv.1, v) else kv).map (·.2)) ((kvs.map fun kv => if kv.1 = x then (kv.1, y) else kv).map (·.2))
  | [], [], _, _ => ⟨rfl, .nil⟩
  | [], _ :: _, e, _ => by simp at e
  | _ :: _, [], e, _ => by simp at e
  | (k, w) :: ws, (z, a) :: kvs, e, r => by
    simp only [List.map_cons, List.cons.injEq] at e
    obtain ⟨e1, e2⟩ := e
    subst e1
    cases r with
    | cons r t =>
      obtain ⟨i1, i2⟩ := map_put (x := x) rv e2 t
      by_cases q : z = x
      · subst q
        simp only [List.map_cons, if_pos]
        exact ⟨by rw [i1], .cons rv i2⟩
      · have ne : ¬ (Sum.inr z : Key) = .inr x := fun z => q (Sum.inr.inj z)
        simp only [List.map_cons, if_neg q, if_neg ne]
        exact ⟨by rw [i1], .cons r i2⟩
theorem put_val {x : Str} {v : V} {y : AV} {ws : List (Key × V)} {kvs : List (Str × AV)} (e : ws.map (·.1) = kvs.map (fun p => (.inr p.1 : Key))) (r : AVRs K G μ (ws.map (·.2)) (kvs.map (·.2))) (rv : AVR K G μ v y) :
    CR K mg G μ (.dct (putA kvs x y)) (.dK (putK ws (.inr x) v)) := by
  have ha : (ws.any fun kv => decide (kv.1 = (.inr x : Key))) = (valV ws (.inr x)).isSome := valV_any _ _
  unfold putA putK
  rw [ha]
  rcases lkA_val (x := x) e r with ⟨w, z, h1, h2, h3⟩ | ⟨h1, h2⟩
  · rw [h1, h2]
    obtain ⟨i1, i2⟩ := map_put (x := x) rv e r
    exact ⟨_, rfl, i1, i2⟩
  · rw [h1, h2]
    refine ⟨_, rfl, ?_, ?_⟩
    · simp [e]
    · simp only [Option.isSome_none, Bool.false_eq_true, if_false, List.map_append, List.map_cons, List.map_nil]
      exact r.append (.cons rv .nil)
theorem drop_val {x : Str} : ∀ {ws : List (Key × V)} {kvs : List (Str × AV)}, ws.map (·.1) = kvs.map (fun p => (.inr p.1 : Key)) → AVRs K G μ (ws.map (·.2)) (kvs.map (·.2)) →
    (dropK ws (.inr x)).map (·.1) = (dropA kvs x).map (fun p => (.inr p.1 : Key)) ∧ AVRs K G μ ((dropK ws (.inr x)).map (·.2)) ((dropA kvs x).map (·.2))
  | [], [], _, _ => ⟨rfl, .nil⟩
  | [], _ :: _, e, _ => by simp at e
  | _ :: _, [], e, _ => by simp at e
  | (k, w) :: ws, (z, a) :: kvs, e, r => by
    simp only [List.map_cons, List.cons.injEq] at e
    obtain ⟨e1, e2⟩ := e
    subst e1
    cases r with
    | cons r t =>
      obtain ⟨i1, i2⟩ := drop_val (x := x) e2 t
      by_cases q : z = x
      · subst q
        rw [dropK_pos rfl]
        have : dropA ((z, a) :: kvs) z = dropA kvs z := by simp [dropA]
        rw [this]
        exact ⟨i1, i2⟩
      · have ne : ¬ (Sum.inr z : Key) = .inr x := fun z => q (Sum.inr.inj z)
        rw [dropK_neg ne]
        have : dropA ((z, a) :: kvs) x = (z, a) :: dropA kvs x := by simp [dropA, q]
        rw [this]
        simp only [List.map_cons]
        exact ⟨by rw [i1], .cons r i2⟩
theorem Ht.dct (t : Ht K mg G μ h H) {n : Nat} {kvs : List (Str × AV)} (e : h[n]? = some (.dct kvs)) {v : V} (r : AVR K G μ v (.loc n)) :
    ∃ a ws, v = .ref a ∧ μ[n]? = some a ∧ G a = none ∧ H a = some (.dK ws) ∧ ws.map (·.1) = kvs.map (fun p => (.inr p.1 : Key)) ∧ AVRs K G μ (ws.map (·.2)) (kvs.map (·.2)) := by
  obtain ⟨a, o, h1, h2, h3, h4, ws, rfl, h5, h6⟩ := t.cell e (by simp) r
  exact ⟨a, ws, h1, h2, h3, h4, h5, h6⟩
theorem kvs_len {ws : List (Key × V)} {kvs : List (Str × AV)} (e : ws.map (·.1) = kvs.map (fun p => (.inr p.1 : Key))) : ws.length = kvs.length := by
  have := congrArg List.length e
  simpa using this
theorem AVRs.atI {vs : List V} {xs : List AV} (r : AVRs K G μ vs xs) {i : Int} {d : AV} (e : L2.atI xs i = some d) : ∃ v, L2.atI vs i = some v ∧ AVR K G μ v d := by
  obtain ⟨j, h1, h2⟩ := ixN_len r.length e
  obtain ⟨v, h3, h4⟩ := r.get h2
  exact ⟨v, by unfold L2.atI; rw [h1]; exact h3, h4⟩
theorem emp_eq {α β : Type} {vs : List α} {xs : List β} (h : vs.length = xs.length) : (!xs.isEmpty) = !vs.isEmpty := by
  cases xs <;> cases vs <;> first | rfl | simp at h
theorem tru_ofA (t : Ht K mg G μ h H) {v : V} {x : AV} (r : AVR K G μ v x) {b : Bool} (e : truA h x = .ok b) : TruV K v H b := by
  cases x with
  | fz d => cases r with | fz r => exact tru_of t.sub (.st r) e
  | tp xs =>
    simp only [truA] at e
    cases e
    cases r with
    | tp q r =>
      exact .inr (.inl ⟨_, sqT_keep t.sub q, emp_eq r.length⟩)
  | loc n =>
    simp only [truA] at e
    cases q : h[n]? with
    | none => rw [q] at e; cases e
    | some c =>
      rw [q] at e
      cases c with
      | lst xs =>
        simp only at e
        cases e
        obtain ⟨a, vs, rfl, e2, e3, e4, e5⟩ := t.lst q r
        exact .inl ⟨vs, SqL.of e4, emp_eq e5.length⟩
      | _ => cases e
theorem truA_ne (h : Hc) (x : AV) (c : Str) (z : Option Dat) : truA h x ≠ .exc c z := by
  intro e
  cases x with
  | fz d => exact tru_ne d c z e
  | tp xs => simp only [truA] at e; cases e
  | loc n =>
    simp only [truA] at e
    split at e <;> cases e
end
section
variable {X : Cx} {P : Pg} {O : PgO} {W : WX} {x y z : Expr} {pos : Pos} {a b c : XE}
/-- a value's truth as a test -/
theorem x_tst (ht : tstE x = true) (ha : PE X x (tX X P O W a)) : PT X x (tXT X P O W a) :=
  PT.imp (pt_truth ha (tst_true ht)) fun σ H Q ⟨G, μ, h, ρ, t, er, q⟩ => by
    unfold tstX at q
    refine bndX t er q fun d v h1 H1 G1 μ1 l1 t1 er1 r1 q1 => ?_
    cases e : truA h1 d with
    | ok r => rw [e] at q1; exact ⟨r, tru_ofA t1 r1 e, q1.fin t1⟩
    | exc c z => exact absurd e (truA_ne _ _ _ _)
    | bad => rw [e] at q1; exact q1.elim
theorem x_bin {o : Bop} (ha : PE X x (tX X P O W a)) (hb : PE X y (tX X P O W b)) : PE X (.BinOp x (opB o) y pos) (tX X P O W (.bin o a b)) :=
  PE.imp (pe_op (op_bin o) ha hb) fun σ H Q ⟨G, μ, h, ρ, t, er, q⟩ => by
    simp only [xv] at q
    refine bndX t er q fun d v h1 H1 G1 μ1 l1 t1 er1 r1 q1 => ?_
    refine bndX t1 er1 q1 fun e w h2 H2 G2 μ2 l2 t2 er2 r2 q2 => ?_
    unfold binA at q2
    split at q2
    · rename_i d1 d2 e1 e2
      obtain ⟨r, hr, fin⟩ := lft_op (bin_ne o d1 d2) q2 t2
      exact ⟨G2, d1, d2, r, t2.sub, fl_rw t2 (r1.mono l2) e1, fl_rw t2 r2 e2, hr, fin⟩
    · exact q2.elim
/-- dicts of data -/
theorem repd_len {K : PySem.W.Frag} {G : Hp} : ∀ {ws : List (Key × V)} {ks : List (Dat × Dat)}, Repd K G ws ks → ws.length = ks.length
  | _, _, .nil => rfl
  | _, _, .int _ t => by simp [repd_len t]
  | _, _, .str _ t => by simp [repd_len t]
theorem hits_data {pins : List (Addr × Obj)} {σ : L2.St} {H : Hp} {s : Shared} (I : Inv X pins σ H s) {A : Around} (hu : A.units + 100 < cLine) {ls : List (Dat × Dat)} {wl : List (Key × V)} {vb : List (Key × Value)} (rl : Repd X.K H wl ls) (rb : KV wl vb) (okl : dOk ls = true) :
    ∀ {ks : List (Dat × Dat)} {wk : List (Key × V)} {va : List (Key × Value)}, Repd X.K H wk ks → KV wk va → dOk ks = true → PySem.W.KeqHits A s vb va (eqDs ls ks)
  | [], _, _, .nil, ra, _ => by cases ra; exact .nil
  | _, _, _, .int _ _, _, ok => by simp [dOk] at ok
  | _, _, _, .str (x := x) (d := d) (ds := ks) r t, ra, ok => by
    simp only [dOk, Bool.and_eq_true] at ok
    cases ra with
    | cons h q =>
      rename_i y ys
      obtain ⟨k, v⟩ := y
      obtain ⟨h1, h2⟩ := h
      have h1' : (.inr x : Key) = k := h1
      subst h1'
      have rr := rb.val (.inr x : Key)
      have rest := hits_data I hu rl rb okl t q ok.2
      rcases lk_valV (x := x) rl with ⟨w, e, e1, e2, e3⟩ | ⟨e1, e2⟩
      · rw [e1] at rr
        obtain ⟨y, hy, ry⟩ := rr.some_of
        simp only [eqDs, e2]
        have oke : shOk e = true := by
          clear rr hy ry rest e3 e1 rl rb
          induction ls with
          | nil => simp [lkD] at e2
          | cons p r ih =>
            obtain ⟨a, b⟩ := p
            cases a <;> simp only [dOk] at okl <;> try (cases okl; done)
            rw [Bool.and_eq_true] at okl
            simp only [lkD] at e2
            split at e2
            · cases e2; exact okl.1
            · exact ih okl.2 e2
        have hd := shOk_depth ok.1
        exact .hit hy (eqAt_rep I (Same.refl H) d e _ w v y A r e3 h2 ry (shOk_ndc ok.1) (shOk_ndc oke) (by omega)) rest
      · rw [e1] at rr
        have hn : valueAt vb (.inr x : Key) = none := by
          cases hv : valueAt vb (.inr x : Key) with
          | none => rfl
          | some y => rw [hv] at rr; exact rr.elim
        simp only [eqDs, e2]
        exact .miss hn
def rCmpDD (X : Cx) (o : Cop) : R2 := fun x y H Q => ∃ ks ls r, Rep X.K H x (.dict ks) ∧ Rep X.K H y (.dict ls) ∧ cmpDD o ks ls = .ok r ∧ Q (.bl r) H
theorem op_cmpDD {k : Nat} (hr : Room k X.A) (o : Cop) : OpR X (compareOp (opC o)) (rCmpDD X o) := by
  intro pins s σ H x y v u Q I rx ry h
  obtain ⟨ks, ls, r, r1, r2, hc, q⟩ := h
  cases r1 with
  | dct e1 d1 =>
    cases r2 with
    | dct e2 d2 =>
      cases rx
      cases ry
      obtain ⟨_, ya, va, ra, da⟩ := dk_rd I.hok e1
      obtain ⟨_, yb, vb, rb, db⟩ := dk_rd I.hok e2
      have hu : X.A.units < cLine := hr.units0
      have hu2 : X.A.in1.units + 100 < cLine := by
        have := hr.un
        rw [in1_units]
        omega
      have l1 : va.length = ks.length := by rw [← ra.length, repd_len d1]
      have l2 : vb.length = ls.length := by rw [← rb.length, repd_len d2]
      cases o <;> simp only [cmpDD] at hc <;> try (cases hc; done)
      · split at hc
        · rename_i hok
          rw [Bool.and_eq_true] at hok
          cases hc
          refine PySem.W.keq_eq (knd := mixKind X.prog X.w) (r := eqDs ls ks) ya yb da db hu (fun _ => hits_data I hu2 d2 rb hok.2 d1 ra hok.1) (fin_bl I q ?_)
          rw [l1, l2]; rfl
        · cases hc
      · split at hc
        · rename_i hok
          rw [Bool.and_eq_true] at hok
          cases hc
          refine PySem.W.keq_ne (knd := mixKind X.prog X.w) (r := eqDs ls ks) ya yb da db hu (fun _ => hits_data I hu2 d2 rb hok.2 d1 ra hok.1) (fin_bl I q ?_)
          rw [l1, l2]; rfl
        · cases hc
/-- a comparison of values -/
def rCmpA (X : Cx) (o : Cop) : R2 := fun x y H Q => ((o = .isN ∧ y = .non ∧ Q (.bl (decide (x = .non))) H) ∨ (o = .ntN ∧ y = .non ∧ Q (.bl (!decide (x = .non))) H)) ∨ (rCmpDD X o x y H Q ∨ R2C X.K (cmpD o) x y H Q)
theorem op_cmpA {k : Nat} (hr : Room k X.A) (o : Cop) : OpR X (compareOp (opC o)) (rCmpA X o) := by
  refine OpR.or (fun pins s σ H x y v u Q I rx ry h => ?_) (OpR.or (op_cmpDD hr o) (op_cmp hr o))
  rcases h with ⟨rfl, h⟩ | ⟨rfl, h⟩
  · exact op_isN pins s σ H x y v u Q I rx ry h
  · exact op_notN pins s σ H x y v u Q I rx ry h
theorem isNA_v {K : PySem.W.Frag} {G : Hp} {μ : List Addr} {v : V} {x : AV} (r : AVR K G μ v x) : decide (v = V.non) = isNA x := by
  cases x with
  | fz d =>
    cases r with
    | fz r => cases r <;> rfl
  | loc n => cases r; rfl
  | tp xs => cases r; rfl
/-- .. of what is read -/
def cmpRd (o : Cop) (d e : Dat) (h : Hc) : RO Bool := match d, e with
  | .dict ks, .dict ls => lft (cmpDD o ks ls) h
  | d, e => lft (cmpD o d e) h
theorem cmpRd_ok {o : Cop} {d e : Dat} {h : Hc} {r : Bool} {h' : Hc} (hc : cmpRd o d e h = .ok r h') : h' = h ∧ ((∃ ks ls, d = .dict ks ∧ e = .dict ls ∧ cmpDD o ks ls = .ok r) ∨ cmpD o d e = .ok r) := by
  have one : ∀ z : Res Bool, lft z h = .ok r h' → h' = h ∧ z = .ok r := fun z q => by
    cases z with
    | ok b => cases q; exact ⟨rfl, rfl⟩
    | exc _ _ => cases q
    | bad => cases q
  unfold cmpRd at hc
  split at hc
  · obtain ⟨h1, h2⟩ := one _ hc
    exact ⟨h1, .inl ⟨_, _, rfl, rfl, h2⟩⟩
  · obtain ⟨h1, h2⟩ := one _ hc
    exact ⟨h1, .inr h2⟩
theorem cmpDD_ne (o : Cop) (ks ls : List (Dat × Dat)) (c : Str) (x : Option Dat) : cmpDD o ks ls ≠ .exc c x := by
  intro h
  cases o <;> simp only [cmpDD] at h <;> (try cases h) <;> (split at h <;> cases h)
theorem cmpRd_ne (o : Cop) (d e : Dat) (h : Hc) (c : Str) (x : Option Dat) (h' : Hc) : cmpRd o d e h ≠ .exc c x h' := by
  intro hc
  unfold cmpRd at hc
  split at hc
  · cases z : cmpDD o _ _ with
    | ok b => rw [z] at hc; cases hc
    | exc c' x' => exact absurd z (cmpDD_ne _ _ _ _ _)
    | bad => rw [z] at hc; cases hc
  · cases z : cmpD o d e with
    | ok b => rw [z] at hc; cases hc
    | exc c' x' => exact absurd z (cmp_ne _ _ _ _ _)
    | bad => rw [z] at hc; cases hc
theorem cmpA_ok {o : Cop} {d e : AV} {v w : V} {h : Hc} {G H : Hp} {μ : List Addr} {r : Bool} {h' : Hc} (t : Ht X.K X.mg G μ h H) (r1 : AVR X.K G μ v d) (r2 : AVR X.K G μ w e) (hc : cmpA o d e h = .ok r h') {Q : VK} (q : Q (.bl r) H) : h' = h ∧ rCmpA X o v w H Q := by
  have rest : (match rd h d, rd h e with
    | some d, some e => cmpRd o d e h
    | _, _ => .bad) = (.ok r h' : RO Bool) → h' = h ∧ rCmpA X o v w H Q := fun hc => by
    split at hc
    · rename_i d1 d2 e1 e2
      obtain ⟨z1, z2⟩ := cmpRd_ok hc
      refine ⟨z1, .inr ?_⟩
      rcases z2 with ⟨ks, ls, rfl, rfl, z2⟩ | z2
      · exact .inl ⟨ks, ls, r, rd_rep t r1 e1, rd_rep t r2 e2, z2, q⟩
      · exact .inr ⟨H, d1, d2, _, Same.refl H, .st (rd_rep t r1 e1), .st (rd_rep t r2 e2), z2, q⟩
    · cases hc
  unfold cmpA at hc
  split at hc
  · cases hc
    cases r2 with
    | fz r2 =>
      cases r2
      exact ⟨rfl, .inl (.inl ⟨rfl, rfl, by rw [isNA_v r1]; exact q⟩)⟩
  · cases hc
    cases r2 with
    | fz r2 =>
      cases r2
      exact ⟨rfl, .inl (.inr ⟨rfl, rfl, by rw [isNA_v r1]; exact q⟩)⟩
  · cases hc
  · cases hc
  · exact rest hc
theorem cmpA_ne (o : Cop) (d e : AV) (h : Hc) (c : Str) (x : Option Dat) (h' : Hc) : cmpA o d e h ≠ .exc c x h' := by
  intro hc
  have rest : ∀ o, (match rd h d, rd h e with
    | some d, some e => cmpRd o d e h
    | _, _ => .bad) ≠ (.exc c x h' : RO Bool) := fun o hc => by
    split at hc
    · exact cmpRd_ne _ _ _ _ _ _ _ hc
    · cases hc
  unfold cmpA at hc
  split at hc
  · cases hc
  · cases hc
  · cases hc
  · cases hc
  · exact rest _ hc
theorem x_cmp {o : Cop} {k : Nat} (hr : Room k X.A) (hp : plainE y = true) (ha : PE X x (tX X P O W a)) (hb : PE X y (tX X P O W b)) : PE X (.Compare x [opC o] [y] pos) (tX X P O W (.cmp o a b)) :=
  PE.imp (pe_cmpR (op_cmpA hr o) ha hb (plain_mark hp)) fun σ H Q ⟨G, μ, h, ρ, t, er, q⟩ => by
    simp only [xv] at q
    refine bndX t er q fun d v h1 H1 G1 μ1 l1 t1 er1 r1 q1 => ?_
    refine bndX t1 er1 q1 fun e w h2 H2 G2 μ2 l2 t2 er2 r2 q2 => ?_
    cases hc : cmpA o d e h2 with
    | ok r h' =>
      rw [hc] at q2
      have e0 := (cmpA_ok (Q := fun _ _ => True) t2 (r1.mono l2) r2 hc trivial).1
      subst e0
      exact (cmpA_ok t2 (r1.mono l2) r2 hc (q2.fin t2 _ (.fz (.bl r)))).2
    | exc c z h' => exact absurd hc (cmpA_ne _ _ _ _ _ _ _)
    | bad => rw [hc] at q2; exact q2.elim
theorem x_cmpT {o : Cop} {k : Nat} (hr : Room k X.A) (hp : plainE y = true) (ha : PE X x (tX X P O W a)) (hb : PE X y (tX X P O W b)) : PT X (.Compare x [opC o] [y] pos) (tXT X P O W (.cmp o a b)) :=
  PT.imp (pt_cmpR (op_cmpA hr o) ha hb (plain_mark hp)) fun σ H Q ⟨G, μ, h, ρ, t, er, q⟩ => by
    have e0 : tstX P O (.cmp o a b) ρ h = (xv P O a ρ h).bnd fun x h => (xv P O b ρ h).bnd fun y h => cmpA o x y h := by
      unfold tstX
      simp only [xv]
      cases xv P O a ρ h with
      | ok x h =>
        simp only [bnd_ok]
        cases xv P O b ρ h with
        | ok y h =>
          simp only [bnd_ok]
          cases cmpA o x y h <;> rfl
        | exc _ _ _ => rfl
        | bad => rfl
      | exc _ _ _ => rfl
      | bad => rfl
    rw [e0] at q
    refine bndX t er q fun d v h1 H1 G1 μ1 l1 t1 er1 r1 q1 => ?_
    refine bndX t1 er1 q1 fun e w h2 H2 G2 μ2 l2 t2 er2 r2 q2 => ?_
    cases hc : cmpA o d e h2 with
    | ok r h' =>
      rw [hc] at q2
      have e0 := (cmpA_ok (Q := fun _ _ => True) t2 (r1.mono l2) r2 hc trivial).1
      subst e0
      exact (cmpA_ok t2 (r1.mono l2) r2 hc ⟨r, rfl, q2.fin t2⟩).2
    | exc c z h' => exact absurd hc (cmpA_ne _ _ _ _ _ _ _)
    | bad => rw [hc] at q2; exact q2.elim
/-! ### tests joined -/
theorem and_TX (ρ : Ex) (h : Hc) : tstX P O (.and a b) ρ h = (tstX P O a ρ h).bnd fun r h => match r with
    | true => tstX P O b ρ h
    | false => .ok false h := by
  unfold tstX
  simp only [xv]
  cases xv P O a ρ h with
  | ok x h =>
    simp only [bnd_ok]
    cases e : truA h x with
    | ok r =>
      simp only [lft_ok, bnd_ok]
      cases r with
      | true => rfl
      | false => simp only [bnd_ok, e, lft_ok]
    | exc _ _ => rfl
    | bad => rfl
  | exc _ _ _ => rfl
  | bad => rfl
theorem or_TX (ρ : Ex) (h : Hc) : tstX P O (.or a b) ρ h = (tstX P O a ρ h).bnd fun r h => match r with
    | true => .ok true h
    | false => tstX P O b ρ h := by
  unfold tstX
  simp only [xv]
  cases xv P O a ρ h with
  | ok x h =>
    simp only [bnd_ok]
    cases e : truA h x with
    | ok r =>
      simp only [lft_ok, bnd_ok]
      cases r with
      | true => simp only [bnd_ok, e, lft_ok]
      | false => rfl
    | exc _ _ => rfl
    | bad => rfl
  | exc _ _ _ => rfl
  | bad => rfl
theorem not_TX (ρ : Ex) (h : Hc) : tstX P O (.not a) ρ h = (tstX P O a ρ h).bnd fun r h => .ok (!r) h := by
  unfold tstX
  simp only [xv]
  cases xv P O a ρ h with
  | ok x h =>
    simp only [bnd_ok]
    cases truA h x <;> rfl
  | exc _ _ _ => rfl
  | bad => rfl
theorem x_and {r : List Expr} (ha : PE X x (tX X P O W a)) (hb : PE X (.BoolOp .And (y :: r) pos) (tX X P O W b)) : PE X (.BoolOp .And (x :: y :: r) pos) (tX X P O W (.and a b)) :=
  PE.imp (pe_andT ha hb) fun σ H Q ⟨G, μ, h, ρ, t, er, q⟩ => by
    simp only [xv] at q
    refine bndX t er q fun d v h1 H1 G1 μ1 l1 t1 er1 r1 q1 => ?_
    cases e : truA h1 d with
    | ok r =>
      rw [e] at q1
      refine ⟨r, tru_ofA t1 r1 e, ?_⟩
      cases r with
      | true => rw [if_pos rfl]; exact ⟨G1, μ1, h1, ρ, t1, er1, q1⟩
      | false => rw [if_neg Bool.false_ne_true]; exact q1.fin t1 _ r1
    | exc c z => exact absurd e (truA_ne _ _ _ _)
    | bad => rw [e] at q1; exact q1.elim
theorem x_or {r : List Expr} (ha : PE X x (tX X P O W a)) (hb : PE X (.BoolOp .Or (y :: r) pos) (tX X P O W b)) : PE X (.BoolOp .Or (x :: y :: r) pos) (tX X P O W (.or a b)) :=
  PE.imp (pe_orT ha hb) fun σ H Q ⟨G, μ, h, ρ, t, er, q⟩ => by
    simp only [xv] at q
    refine bndX t er q fun d v h1 H1 G1 μ1 l1 t1 er1 r1 q1 => ?_
    cases e : truA h1 d with
    | ok r =>
      rw [e] at q1
      refine ⟨r, tru_ofA t1 r1 e, ?_⟩
      cases r with
      | true => rw [if_pos rfl]; exact q1.fin t1 _ r1
      | false => rw [if_neg Bool.false_ne_true]; exact ⟨G1, μ1, h1, ρ, t1, er1, q1⟩
    | exc c z => exact absurd e (truA_ne _ _ _ _)
    | bad => rw [e] at q1; exact q1.elim
theorem xw_and {r : List Expr} (ha : PT X x (tXT X P O W a)) (hb : PW X (.BoolOp .And (y :: r) pos) (tXT X P O W b)) : PW X (.BoolOp .And (x :: y :: r) pos) (tXT X P O W (.and a b)) :=
  PW.imp (pw_and ha hb) fun σ H Q ⟨G, μ, h, ρ, t, er, q⟩ => by
    rw [and_TX] at q
    refine bndT' t er q fun r h1 H1 G1 μ1 l1 t1 er1 q1 => ?_
    cases r with
    | true => rw [if_pos rfl]; exact ⟨G1, μ1, h1, ρ, t1, er1, q1⟩
    | false => rw [if_neg Bool.false_ne_true]; exact q1.fin t1
theorem xw_or {r : List Expr} (ha : PT X x (tXT X P O W a)) (hb : PW X (.BoolOp .Or (y :: r) pos) (tXT X P O W b)) : PW X (.BoolOp .Or (x :: y :: r) pos) (tXT X P O W (.or a b)) :=
  PW.imp (pw_or ha hb) fun σ H Q ⟨G, μ, h, ρ, t, er, q⟩ => by
    rw [or_TX] at q
    refine bndT' t er q fun r h1 H1 G1 μ1 l1 t1 er1 q1 => ?_
    cases r with
    | true => rw [if_pos rfl]; exact q1.fin t1
    | false => rw [if_neg Bool.false_ne_true]; exact ⟨G1, μ1, h1, ρ, t1, er1, q1⟩
theorem x_not (ha : PE X x (tX X P O W a)) : PE X (.UnaryOp .Not x pos) (tX X P O W (.not a)) :=
  PE.imp (pe_notT ha) fun σ H Q ⟨G, μ, h, ρ, t, er, q⟩ => by
    simp only [xv] at q
    refine bndX t er q fun d v h1 H1 G1 μ1 l1 t1 er1 r1 q1 => ?_
    cases e : truA h1 d with
    | ok r => rw [e] at q1; exact ⟨r, tru_ofA t1 r1 e, q1.fin t1 _ (.fz (.bl _))⟩
    | exc c z => exact absurd e (truA_ne _ _ _ _)
    | bad => rw [e] at q1; exact q1.elim
theorem x_notT (ha : PT X x (tXT X P O W a)) : PT X (.UnaryOp .Not x pos) (tXT X P O W (.not a)) :=
  PT.imp (pt_not ha) fun σ H Q ⟨G, μ, h, ρ, t, er, q⟩ => by
    rw [not_TX] at q
    refine bndT' t er q fun r h1 H1 G1 μ1 l1 t1 er1 q1 => ?_
    exact q1.fin t1
theorem x_ife (ha : PT X x (tXT X P O W a)) (hb : PE X y (tX X P O W b)) (hc : PE X z (tX X P O W c)) : PE X (.IfExp x y z pos) (tX X P O W (.ife a b c)) :=
  PE.imp (pe_ifExp ha hb hc) fun σ H Q ⟨G, μ, h, ρ, t, er, q⟩ => by
    have e0 : xv P O (.ife a b c) ρ h = (tstX P O a ρ h).bnd fun r h => match r with
        | true => xv P O b ρ h
        | false => xv P O c ρ h := by
      unfold tstX
      simp only [xv]
      cases xv P O a ρ h <;> rfl
    rw [e0] at q
    refine bndT' t er q fun r h1 H1 G1 μ1 l1 t1 er1 q1 => ?_
    cases r with
    | true => rw [if_pos rfl]; exact ⟨G1, μ1, h1, ρ, t1, er1, q1⟩
    | false => rw [if_neg Bool.false_ne_true]; exact ⟨G1, μ1, h1, ρ, t1, er1, q1⟩
/-! ### parts -/
theorem x_ix (hp : plainE y = true) (ha : PE X x (tX X P O W a)) (hb : PE X y (tX X P O W b)) : PE X (.Subscript x y pos) (tX X P O W (.ix a b)) :=
  PE.imp (pe_ix (ix_data.or (ix_list.or ix_tup)) ha hb (plain_ix hp)) fun σ H Q ⟨G, μ, h, ρ, t, er, q⟩ => by
    simp only [xv] at q
    refine bndX t er q fun d v h1 H1 G1 μ1 l1 t1 er1 r1 q1 => ?_
    refine bndX t1 er1 q1 fun e w h2 H2 G2 μ2 l2 t2 er2 r2 q2 => ?_
    have r1' := r1.mono l2
    clear r1
    cases d with
    | fz d =>
      cases e with
      | fz e =>
        simp only [ixA] at q2
        obtain ⟨r, hr, fin⟩ := lft_op (ix_ne d e) q2 t2
        cases r1' with
        | fz r1 => cases r2 with
          | fz r2 => exact .inl ⟨G2, d, e, r, t2.sub, .st r1, .st r2, hr, fin⟩
      | _ => exact q2.elim
    | tp xs =>
      cases e with
      | fz e =>
        cases e with
        | int k =>
          simp only [ixA] at q2
          cases e0 : L2.atI xs k with
          | none => rw [e0] at q2; exact q2.elim
          | some u =>
            rw [e0] at q2
            cases r1' with
            | tp q r1 =>
              obtain ⟨w', e1, e2⟩ := r1.atI e0
              cases r2 with
              | fz r2 => cases r2; exact .inr (.inr ⟨_, _, k, w', rfl, rfl, sqT_keep t2.sub q, e1, q2.fin t2 _ e2⟩)
        | _ => exact q2.elim
      | _ => exact q2.elim
    | loc n =>
      cases hh : h2[n]? with
      | none => simp only [ixA, hh] at q2; exact q2.elim
      | some c =>
        cases c with
        | lst xs =>
          cases e with
          | fz e =>
            cases e with
            | int k =>
              simp only [ixA, hh] at q2
              cases e0 : L2.atI xs k with
              | none => rw [e0] at q2; exact q2.elim
              | some u =>
                rw [e0] at q2
                obtain ⟨p, vs, rfl, e2, e3, e4, e5⟩ := t2.lst hh r1'
                obtain ⟨w', e6, e7⟩ := e5.atI e0
                cases r2 with
                | fz r2 => cases r2; exact .inr (.inl ⟨_, _, k, w', rfl, rfl, SqL.of e4, e6, q2.fin t2 _ e7⟩)
            | _ => simp only [ixA, hh] at q2; exact q2.elim
          | _ => simp only [ixA, hh] at q2; exact q2.elim
        | _ => simp only [ixA, hh] at q2; exact q2.elim
/-- what a dict holds by a text -/
theorem dget_of {a : AV} {v w : V} {h : Hc} {G H : Hp} {μ : List Addr} {s : Str} (t : Ht X.K X.mg G μ h H) (r1 : AVR X.K G μ v a) (r2 : AVR X.K G μ w (.fz (.str s))) :
    (∀ kvs, a = .fz (.dict kvs) → ∃ p, v = .ref p ∧ w = .str s ∧ ((∃ u d, DGet H p w (some u) ∧ lkD kvs s = some d ∧ AVR X.K G μ u (.fz d)) ∨ (DGet H p w none ∧ lkD kvs s = none))) ∧
    (∀ n kvs, a = .loc n → h[n]? = some (.dct kvs) → ∃ p, v = .ref p ∧ w = .str s ∧ ((∃ u d, DGet H p w (some u) ∧ lkA kvs s = some d ∧ AVR X.K G μ u d) ∨ (DGet H p w none ∧ lkA kvs s = none))) := by
  have hw : w = .str s := by
    cases r2 with | fz r2 => cases r2; rfl
  subst hw
  refine ⟨fun kvs e => ?_, fun n kvs e hh => ?_⟩
  · subst e
    cases r1 with
    | fz r1 => cases r1 with
      | dct hR hr =>
        refine ⟨_, rfl, rfl, ?_⟩
        rcases lk_valV (x := s) hr with ⟨u, d', e1, e2, e3⟩ | ⟨e1, e2⟩
        · exact .inl ⟨u, d', .inl ⟨_, .inr s, rd_keep t.sub hR, rfl, e1.symm⟩, e2, .fz e3⟩
        · exact .inr ⟨.inl ⟨_, .inr s, rd_keep t.sub hR, rfl, e1.symm⟩, e2⟩
  · subst e
    obtain ⟨p, ws, rfl, e2, e3, e4, e5, e6⟩ := t.dct hh r1
    refine ⟨_, rfl, rfl, ?_⟩
    rcases lkA_val (x := s) e5 e6 with ⟨u', d', f1, f2, f3⟩ | ⟨f1, f2⟩
    · exact .inl ⟨u', d', .inl ⟨_, .inr s, .inl e4, rfl, f1.symm⟩, f2, f3⟩
    · exact .inr ⟨.inl ⟨_, .inr s, .inl e4, rfl, f1.symm⟩, f2⟩
theorem noSl {i : Expr} (h : plainE i = true) : NoSl i := fun ov iv => by cases i <;> first | rfl | (simp [plainE] at h)
theorem x_dix {k : Nat} (hr : Room k X.A) (hp : plainE y = true) (ha : PE X x (tX X P O W a)) (hb : PE X y (tX X P O W b)) : PE X (.Subscript x y pos) (tX X P O W (.dix a b)) :=
  PE.imp (pe_dget (hu_of hr) ha hb (noSl hp)) fun σ H Q ⟨G, μ, h, ρ, t, er, q⟩ => by
    simp only [xv] at q
    refine bndX t er q fun d v h1 H1 G1 μ1 l1 t1 er1 r1 q1 => ?_
    refine bndX t1 er1 q1 fun e w h2 H2 G2 μ2 l2 t2 er2 r2 q2 => ?_
    have r1' := r1.mono l2
    clear r1
    cases e with
    | fz e =>
      cases e with
      | str s =>
        cases d with
        | fz d =>
          cases d with
          | dict kvs =>
            obtain ⟨p', ep, rfl, hh⟩ := (dget_of t2 r1' r2).1 kvs rfl
            subst ep
            rcases hh with ⟨u', d, g1, g2, g3⟩ | ⟨g1, g2⟩
            · simp only [dixA, g2] at q2
              exact ⟨_, _, rfl, g1, q2.fin t2 _ g3⟩
            · simp only [dixA, g2] at q2
              exact q2.elim
          | _ => exact q2.elim
        | tp _ => exact q2.elim
        | loc n =>
          cases hh : h2[n]? with
          | none => simp only [dixA, hh] at q2; exact q2.elim
          | some c =>
            cases c with
            | dct kvs =>
              obtain ⟨p', ep, rfl, hh'⟩ := (dget_of t2 r1' r2).2 n kvs rfl hh
              subst ep
              rcases hh' with ⟨u', d, g1, g2, g3⟩ | ⟨g1, g2⟩
              · simp only [dixA, hh, g2] at q2
                exact ⟨_, _, rfl, g1, q2.fin t2 _ g3⟩
              · simp only [dixA, hh, g2] at q2
                exact q2.elim
            | _ => simp only [dixA, hh] at q2; exact q2.elim
      | _ => cases d <;> first | exact q2.elim | (rename_i z; cases z <;> exact q2.elim)
    | _ => cases d <;> first | exact q2.elim | (rename_i z; cases z <;> exact q2.elim)
theorem isDA_is {a : AV} {v : V} {h : Hc} {G H : Hp} {μ : List Addr} (t : Ht X.K X.mg G μ h H) (r : AVR X.K G μ v a) (e : isDA h a = true) : ∃ p, v = .ref p ∧ IsD H p := by
  unfold isDA at e
  split at e
  · split at e
    · rename_i n kvs hh
      obtain ⟨p, ws, rfl, e2, e3, e4, e5, e6⟩ := t.dct hh r
      exact ⟨p, rfl, .inl ⟨_, .inl e4⟩⟩
    · cases e
  · cases r with
    | fz r => cases r with
      | dct hR hr => exact ⟨_, rfl, .inl ⟨_, rd_keep t.sub hR⟩⟩
  · cases e
theorem x_dget {k : Nat} (hr : Room k X.A) {apos : Pos} (hb : baseE x = true) (hp : plainE y = true) (hp2 : plainE z = true) (hl : (apos.endLine == pos.line) = true) (ha : PE X x (tX X P O W a)) (hy : PE X y (tX X P O W b)) (hz : PE X z (tX X P O W c)) :
    PE X (.Call (.Attribute x "get" apos) [y, z] [] pos) (tX X P O W (.dget a b c)) :=
  PE.imp (pe_dget2 (hu_of hr) ha hy hz (m2_of hb hp hp2 hl)) fun σ H Q ⟨G, μ, h, ρ, t, er, q⟩ => by
    simp only [xv] at q
    refine bndX t er q fun d v h1 H1 G1 μ1 l1 t1 er1 r1 q1 => ?_
    split at q1
    · rename_i hd
      obtain ⟨p, rfl, hD⟩ := isDA_is t1 r1 hd
      refine ⟨p, rfl, hD, bndX t1 er1 q1 fun e w h2 H2 G2 μ2 l2 t2 er2 r2 q2 => ?_⟩
      refine bndX t2 er2 q2 fun f u h3 H3 G3 μ3 l3 t3 er3 r3 q3 => ?_
      have r1' := (r1.mono l2).mono l3
      have r2' := r2.mono l3
      cases e with
      | fz e =>
        cases e with
        | str s =>
          cases d with
          | fz d =>
            cases d with
            | dict kvs =>
              obtain ⟨p', ep, rfl, hh⟩ := (dget_of t3 r1' r2').1 kvs rfl
              cases ep
              rcases hh with ⟨u', d, g1, g2, g3⟩ | ⟨g1, g2⟩
              · simp only [dgetA, g2] at q3
                exact ⟨_, g1, q3.fin t3 _ g3⟩
              · simp only [dgetA, g2] at q3
                exact ⟨_, g1, q3.fin t3 _ r3⟩
            | _ => exact q3.elim
          | tp _ => exact q3.elim
          | loc n =>
            cases hh : h3[n]? with
            | none => simp only [dgetA, hh] at q3; exact q3.elim
            | some c =>
              cases c with
              | dct kvs =>
                obtain ⟨p', ep, rfl, hh'⟩ := (dget_of t3 r1' r2').2 n kvs rfl hh
                cases ep
                rcases hh' with ⟨u', d, g1, g2, g3⟩ | ⟨g1, g2⟩
                · simp only [dgetA, hh, g2] at q3
                  exact ⟨_, g1, q3.fin t3 _ g3⟩
                · simp only [dgetA, hh, g2] at q3
                  exact ⟨_, g1, q3.fin t3 _ r3⟩
              | _ => simp only [dgetA, hh] at q3; exact q3.elim
        | _ => cases d <;> first | exact q3.elim | (rename_i z; cases z <;> exact q3.elim)
      | _ => cases d <;> first | exact q3.elim | (rename_i z; cases z <;> exact q3.elim)
    · exact q1.elim
/-- k in d, by values -/
theorem dinA_ok {d e : AV} {v w : V} {h : Hc} {G H : Hp} {μ : List Addr} {β : Type} {R : Hp → List Addr → Hp → β → Prop} {f : Bool → Hc → RO β} {σ : L2.St} (t : Ht X.K X.mg G μ h H) (r1 : AVR X.K G μ v d) (r2 : AVR X.K G μ w e)
    (q : EndR X W σ G μ R ((dinA d e h).bnd f)) : ∃ p o, w = .ref p ∧ DGet H p v o ∧ EndR X W σ G μ R (f o.isSome h) := by
  cases d with
  | fz d =>
    cases d with
    | str s =>
      cases e with
      | fz e =>
        cases e with
        | dict kvs =>
          obtain ⟨p', ep, rfl, hh⟩ := (dget_of t r2 r1).1 kvs rfl
          rcases hh with ⟨u', d, g1, g2, g3⟩ | ⟨g1, g2⟩
          · simp only [dinA, g2, bnd_ok] at q
            exact ⟨_, _, ep, g1, q⟩
          · simp only [dinA, g2, bnd_ok] at q
            exact ⟨_, _, ep, g1, q⟩
        | _ => exact q.elim
      | tp _ => exact q.elim
      | loc n =>
        cases hh : h[n]? with
        | none => simp only [dinA, hh] at q; exact q.elim
        | some c =>
          cases c with
          | dct kvs =>
            obtain ⟨p', ep, rfl, hh'⟩ := (dget_of t r2 r1).2 n kvs rfl hh
            rcases hh' with ⟨u', d, g1, g2, g3⟩ | ⟨g1, g2⟩
            · simp only [dinA, hh, g2, bnd_ok] at q
              exact ⟨_, _, ep, g1, q⟩
            · simp only [dinA, hh, g2, bnd_ok] at q
              exact ⟨_, _, ep, g1, q⟩
          | _ => simp only [dinA, hh] at q; exact q.elim
    | _ => exact q.elim
  | _ => exact q.elim
/-- k in d -/
theorem x_din {neg : Bool} {k : Nat} (hr : Room k X.A) (hp : plainE y = true) (ha : PE X x (tX X P O W a)) (hb : PE X y (tX X P O W b)) :
    PE X (.Compare x [if neg then .NotIn else .In] [y] pos) (tX X P O W (.din neg a b)) := by
  have go : ∀ σ H Q, tX X P O W (.din neg a b) σ H Q → tX X P O W a σ H fun y H1 => tX X P O W b σ H1 fun x H2 => ∃ p o, x = .ref p ∧ DGet H2 p y o ∧ Q (.bl (if neg then !o.isSome else o.isSome)) H2 := fun σ H Q ⟨G, μ, h, ρ, t, er, q⟩ => by
    simp only [xv] at q
    refine bndX t er q fun d v h1 H1 G1 μ1 l1 t1 er1 r1 q1 => ?_
    refine bndX t1 er1 q1 fun e w h2 H2 G2 μ2 l2 t2 er2 r2 q2 => ?_
    obtain ⟨p, o, ep, g1, q3⟩ := dinA_ok t2 (r1.mono l2) r2 q2
    exact ⟨p, o, ep, g1, q3.fin t2 _ (.fz (.bl _))⟩
  cases neg with
  | true => exact PE.imp (pe_cmp (pc_dnotin (hu_of hr) ha hb) (plain_mark hp)) go
  | false => exact PE.imp (pe_cmp (pc_din (hu_of hr) ha hb) (plain_mark hp)) go
theorem x_dinT {neg : Bool} {k : Nat} (hr : Room k X.A) (hp : plainE y = true) (ha : PE X x (tX X P O W a)) (hb : PE X y (tX X P O W b)) :
    PT X (.Compare x [if neg then .NotIn else .In] [y] pos) (tXT X P O W (.din neg a b)) := by
  have go : ∀ σ H Q, tXT X P O W (.din neg a b) σ H Q → tX X P O W a σ H fun y H1 => tX X P O W b σ H1 fun x H2 => ∃ p o, x = .ref p ∧ DGet H2 p y o ∧ ∃ d, V.bl (if neg then !o.isSome else o.isSome) = .bl d ∧ Q d H2 := fun σ H Q ⟨G, μ, h, ρ, t, er, q⟩ => by
    have e0 : tstX P O (.din neg a b) ρ h = (xv P O a ρ h).bnd fun x h => (xv P O b ρ h).bnd fun y h => (dinA x y h).bnd fun r h => .ok (if neg then !r else r) h := by
      unfold tstX
      simp only [xv]
      cases xv P O a ρ h with
      | ok x h =>
        simp only [bnd_ok]
        cases xv P O b ρ h with
        | ok y h =>
          simp only [bnd_ok]
          cases dinA x y h <;> rfl
        | exc _ _ _ => rfl
        | bad => rfl
      | exc _ _ _ => rfl
      | bad => rfl
    rw [e0] at q
    refine bndX t er q fun d v h1 H1 G1 μ1 l1 t1 er1 r1 q1 => ?_
    refine bndX t1 er1 q1 fun e w h2 H2 G2 μ2 l2 t2 er2 r2 q2 => ?_
    obtain ⟨p, o, ep, g1, q3⟩ := dinA_ok t2 (r1.mono l2) r2 q2
    exact ⟨p, o, ep, g1, _, rfl, q3.fin t2⟩
  cases neg with
  | true => exact PT.imp (pt_cmp (pc_dnotin (hu_of hr) ha hb) (plain_mark hp)) go
  | false => exact PT.imp (pt_cmp (pc_din (hu_of hr) ha hb) (plain_mark hp)) go
end
end NW
end

section
set_option maxHeartbeats 4000000
/-! The readings over cells: calls and methods. -/
namespace NW
open PySem PySem.Spec PyProof.Rows L2

/-- a def over cells: its name, its parameters, its class, if it is a method; what it raises has no context -/
structure SigO where
  nm : Str
  ar : Nat
  cls : Option Str
  cl : Bool
def EndO (K : PySem.W.Frag) (mg : Str → Option Value) (G : Hp) (μ : List Addr) (Q : VK) (E : XK) : RO AV → Prop
  | .ok a h' => ∀ v H' G' μ', Le G μ G' μ' → Ht K mg G' μ' h' H' → AVR K G' μ' v a → Q v H'
  | .exc c x h' => ∀ cls dx H' G' μ', Le G μ G' μ' → Ht K mg G' μ' h' H' → XR K mg H' G' cls dx c x → E cls dx H'
  | .bad => False
def spO (K : PySem.W.Frag) (mg : Str → Option Value) (sg : SigO) (F : List AV → Hc → RO AV) : Sp := fun vs H Q E => ∃ G μ h as, Ht K mg G μ h H ∧ vs.length = sg.ar ∧ AVRs K G μ vs as ∧ EndO K mg G μ Q E (F as h)
/-- a def that may be called so -/
def FnXO (P : Program) (w_ : World) (K : PySem.W.Frag) (mg : Str → Option Value) (base : Heap) (n : Nat) (sg : SigO) (F : List AV → Hc → RO AV) : Prop :=
  match sg.cls with
  | none => ∃ (f : Addr) (fd : FuncData) (ps : List Str) (ds : List Value) (dvs : List V) (sp : Sp), mg sg.nm = some (.ref f) ∧ PySem.W.keepIn K (.ref f) = true ∧ FnOk P w_ K mg base (CXB sg.cl P w_) n f fd ps sp ∧ Binds K fd ps ds ∧ Vals dvs ds ∧
      ∀ vs H Q E, spO K mg sg F vs H Q E → sp (vs ++ dvs) H Q E
  | some c => ∃ (C f : Addr) (fd : FuncData) (ps : List Str) (ds : List Value) (dvs : List V) (sp : Sp), mg c = some (.ref C) ∧ (if sg.nm = "__init__" then Mk K C f else Cls K C ∧ Meth K C sg.nm f) ∧ FnOk P w_ K mg base (CXB sg.cl P w_) n f fd ps sp ∧ Binds K fd ps ds ∧ Vals dvs ds ∧
      ∀ vs H Q E, spO K mg sg F vs H Q E → sp (vs ++ dvs) H Q E
structure GdO (X : Cx) (T : Tx) (P : Pg) (S : List SigO) (O : PgO) (n m : Nat) (W : WX) : Prop where
  gd : Gd X T P n W
  ofn : ∀ k sg, k < m → S[k]? = some sg → FnXO X.prog X.w X.K X.mg X.base n sg (O.F k)
  fld : ∀ c f, O.fld c f = true → ∃ C, X.mg c = some (.ref C) ∧ Cls X.K C ∧ NoAttr X.K C f
section
variable {X : Cx} {T : Tx} {P : Pg} {S : List SigO} {O : PgO} {n m : Nat} {W : WX} {x y z : Expr} {pos : Pos} {a b c : XE}
theorem EndO.of {G : Hp} {μ : List Addr} {σ : L2.St} {Q : VK} {r : RO AV} (q : EndR X W σ G μ (RV X Q) r) : EndO X.K X.mg G μ Q (WE W σ) r := by
  cases r with
  | ok a h => exact fun v H' G' μ' l t r => q H' G' μ' l t v r
  | exc c x h => exact q
  | bad => exact q
def lenXs : XEs → Nat
  | .nil => 0
  | .cons _ r => lenXs r + 1
theorem xvs_len {ρ : Ex} : ∀ {es : XEs} {h : Hc} {xs : List AV} {h' : Hc}, xvs P O es ρ h = .ok xs h' → xs.length = lenXs es
  | .nil, h, xs, h', e => by simp only [xvs] at e; cases e; rfl
  | .cons e r, h, xs, h', q => by
    simp only [xvs] at q
    cases z : xv P O e ρ h with
    | ok d h1 =>
      rw [z] at q
      simp only [bnd_ok] at q
      cases z2 : xvs P O r ρ h1 with
      | ok es h2 => rw [z2] at q; simp only [bnd_ok] at q; cases q; simp [xvs_len z2, lenXs]
      | exc _ _ _ => rw [z2] at q; cases q
      | bad => rw [z2] at q; cases q
    | exc _ _ _ => rw [z] at q; cases q
    | bad => rw [z] at q; cases q
theorem xs_nil : PA X [] (tXs X P O W .nil) := PA.imp pa_nil fun σ H Q ⟨G, μ, h, ρ, t, er, q⟩ => by
  simp only [xvs] at q
  exact q.fin t _ .nil
theorem xs_cons {xs : List Expr} {e : XE} {es : XEs} (hp : plainE x = true) (hx : PE X x (tX X P O W e)) (hs : PA X xs (tXs X P O W es)) : PA X (x :: xs) (tXs X P O W (.cons e es)) :=
  PA.imp (pa_cons hx hs (star_cons hp)) fun σ H Q ⟨G, μ, h, ρ, t, er, q⟩ => by
    simp only [xvs] at q
    refine bndX t er q fun d v h1 H1 G1 μ1 l1 t1 er1 r1 q1 => ?_
    refine bndXs t1 er1 q1 fun ds vs h2 H2 G2 μ2 _ l2 t2 er2 r2 q2 => ?_
    exact q2.fin t2 _ (.cons (r1.mono l2) r2)
/-! ### readings of arguments -/
theorem rdL_as {K : PySem.W.Frag} {G F : Hp} {μ : List Addr} {f : AV → Option Dat} (hf : ∀ x v d, AVR K G μ v x → f x = some d → Rep K F v d) {ws : List Bool} {H : Hp} : ∀ {xs : List AV} {vs : List V} {ds : List Dat}, AVRs K G μ vs xs → rdL f xs = some ds → Reps K F vs ds := fun r e => rdL_rep hf r e
theorem flW_ras {K : PySem.W.Frag} {mg : Str → Option Value} {G H : Hp} {μ : List Addr} {h : Hc} (t : Ht K mg G μ h H) : ∀ {ws : List Bool} {xs : List AV} {vs : List V} {ds : List Dat}, AVRs K G μ vs xs → flW h ws xs = some ds → RAs K H G ws vs ds
  | _, [], _, ds, r, e => by cases r; simp only [flW] at e; cases e; exact .nil
  | ws, x :: xs, _, ds, r, e => by
    cases r with
    | cons r q =>
      simp only [flW] at e
      split at e
      · rename_i d es e1 e2
        cases e
        refine .cons ?_ (flW_ras t q e2)
        by_cases hw : ws.headD false = true
        · rw [if_pos hw] at e1 ⊢
          exact fl_rw t r e1
        · rw [if_neg hw] at e1 ⊢
          cases x with
          | fz d' => simp only at e1; cases e1; cases r with | fz r => exact r
          | _ => simp only at e1; cases e1
      · cases e
theorem flL_rws {K : PySem.W.Frag} {mg : Str → Option Value} {G H : Hp} {μ : List Addr} {h : Hc} (t : Ht K mg G μ h H) : ∀ {xs : List AV} {vs : List V} {ds : List Dat}, AVRs K G μ vs xs → flL h xs = some ds → RWs K H G vs ds
  | [], _, ds, r, e => by cases r; simp only [flL] at e; cases e; exact .nil
  | x :: xs, _, ds, r, e => by
    cases r with
    | cons r q =>
      simp only [flL] at e
      split at e
      · rename_i d es e1 e2
        cases e
        exact .cons (fl_rw t r e1) (flL_rws t q e2)
      · cases e
theorem reps_rasA {K : PySem.W.Frag} {H G : Hp} : ∀ {ws : List Bool} {vs : List V} {ds : List Dat}, Reps K G vs ds → RAs K H G ws vs ds
  | _, [], _, r => by cases r; exact .nil
  | ws, _ :: _, _, r => by
    cases r with
    | cons r q =>
      refine .cons ?_ (reps_rasA q)
      split
      · exact .st r
      · exact r
/-! ### calls of defs -/
theorem x_calf {k : Nat} {ws : List Bool} {nm : Str} {np : Pos} {xs : List Expr} {es : XEs} {sg : Sig} (g : GdO X T P S O n m W) (hs : T.fns[k]? = some sg) (hn : sg.nm = nm) (hk : k < n) (hg : glB X.env.scope nm = true) (ho : okN nm = true)
    (hw : sg.kw = none) (hcl : (!T.cl || sg.cl) = true) (hws : ws = sg.ln) (hfr : sg.fr ≠ 1) (hl : sg.ln.length = (y :: xs).length) (hl2 : lenXs es = (y :: xs).length) (hp : plains (y :: xs) = true) (hx : PA X (y :: xs) (tXs X P O W es)) :
    PE X (.Call (.Name nm np) (y :: xs) [] pos) (tX X P O W (.calf k ws es)) := by
  have hx0 := g.gd.fns k sg hk hs
  unfold FnX at hx0
  rw [hw] at hx0
  obtain ⟨f, fd, ps, dfs, dvs, sp, h1, h2, h3, h4, h5, h6⟩ := hx0
  subst hn
  subst hws
  have hp' := hp
  unfold plains at hp'
  rw [List.all_cons, Bool.and_eq_true] at hp'
  have hg' : X.env.scope.names.lookup sg.nm = some .globalImplicit := of_decide_eq_true hg
  refine PE.imp (pe_callSD h3 g.gd.room hg' h1 h2 h4 h5 (fun σ => passB g.gd.tk hcl σ) hx (okN_d ho) (star_cons hp'.1) (no_star hp'.2)) fun σ H Q ⟨G, μ, h, ρ, t, er, q⟩ => ?_
  simp only [xv] at q
  refine bndXs (Q' := fun vs H1 => sp (vs ++ dvs) H1 Q (WE W σ)) t er q fun as vs hh H1 G1 μ1 e1 l1 t1 er1 r1 q1 => ?_
  cases e2 : flW hh sg.ln as with
  | none => rw [e2] at q1; exact q1.elim
  | some ds =>
    rw [e2] at q1
    simp only at q1
    have rs := flW_ras t1 r1 e2
    refine h6 vs H1 Q (WE W σ) ⟨G1, ds, t1.sub, by rw [r1.length, xvs_len e1, hl, hl2], rs, ?_⟩
    cases hF : P.F k ds with
    | ok d =>
      rw [hF] at q1
      have fin : Fin X.K H1 G1 Q d := EndR.toFin q1 t1
      match hf : sg.fr, hfr with
      | 0, _ => exact fun v H' G' x r => fin v H' G' x r
      | 2, _ =>
        intro v H' G' x r
        obtain ⟨a, vs, ds, rfl, rfl, na, ga, ha, rr⟩ := r
        exact New.still fin a vs H' G' x na ga ha rr
      | k + 3, _ => exact fun v H' G' x r => fin v H' G' x r.1
    | exc c x => rw [hF] at q1; exact fun cls dx H' G' w r => q1 cls dx H' G' μ1 ⟨w.stl, List.prefix_refl _⟩ (t1.ext w) r
    | bad => rw [hF] at q1; exact q1
theorem x_cal {k : Nat} {nm : Str} {np : Pos} {xs : List Expr} {es : XEs} {sg : SigO} (g : GdO X T P S O n m W) (hs : S[k]? = some sg) (hn : sg.nm = nm) (hk : k < m) (hg : glB X.env.scope nm = true) (ho : okN nm = true)
    (hc : sg.cls = none) (hcl : (!T.cl || sg.cl) = true) (hl : sg.ar = (y :: xs).length) (hl2 : lenXs es = (y :: xs).length) (hp : plains (y :: xs) = true) (hx : PA X (y :: xs) (tXs X P O W es)) :
    PE X (.Call (.Name nm np) (y :: xs) [] pos) (tX X P O W (.cal k es)) := by
  have hx0 := g.ofn k sg hk hs
  unfold FnXO at hx0
  rw [hc] at hx0
  obtain ⟨f, fd, ps, dfs, dvs, sp, h1, h2, h3, h4, h5, h6⟩ := hx0
  subst hn
  have hp' := hp
  unfold plains at hp'
  rw [List.all_cons, Bool.and_eq_true] at hp'
  have hg' : X.env.scope.names.lookup sg.nm = some .globalImplicit := of_decide_eq_true hg
  refine PE.imp (pe_callSD h3 g.gd.room hg' h1 h2 h4 h5 (fun σ => passB g.gd.tk hcl σ) hx (okN_d ho) (star_cons hp'.1) (no_star hp'.2)) fun σ H Q ⟨G, μ, h, ρ, t, er, q⟩ => ?_
  simp only [xv] at q
  refine bndXs (Q' := fun vs H1 => sp (vs ++ dvs) H1 Q (WE W σ)) t er q fun as vs hh H1 G1 μ1 e1 l1 t1 er1 r1 q1 => ?_
  exact h6 vs H1 Q (WE W σ) ⟨G1, μ1, hh, as, t1, by rw [r1.length, xvs_len e1, hl, hl2], r1, EndO.of q1⟩
/-! ### arguments read all the way down -/
/-- what stays, and the live cells beside -/
noncomputable def withLive (μ : List Addr) (h : Hc) (G H : Hp) : Hp := open Classical in fun a => if Live μ h a then H a else G a
section
variable {K : PySem.W.Frag} {mg : Str → Option Value} {G H : Hp} {μ : List Addr} {h : Hc}
theorem wl_live {a : Addr} (l : Live μ h a) : withLive μ h G H a = H a := if_pos l
theorem wl_dead {a : Addr} (l : ¬ Live μ h a) : withLive μ h G H a = G a := if_neg l
theorem wl_sub (t : Ht K mg G μ h H) : Same (withLive μ h G H) H := fun a o e => by
  by_cases l : Live μ h a
  · rw [wl_live l] at e; exact e
  · rw [wl_dead l] at e; exact t.sub _ _ e
theorem live_at (t : Ht K mg G μ h H) {a : Addr} (l : Live μ h a) : ∃ c o, c ≠ Cell.dead ∧ G a = none ∧ H a = some o ∧ CR K mg G μ c o := by
  obtain ⟨n, c, e, ne, ea⟩ := l
  obtain ⟨a', o, h1, h2, h3, h4⟩ := t.at_ n c e ne
  rw [ea] at h1
  cases h1
  exact ⟨c, o, ne, h2, h3, h4⟩
theorem wl_G (t : Ht K mg G μ h H) : Same G (withLive μ h G H) := fun a o e => by
  have l : ¬ Live μ h a := fun l => by
    obtain ⟨c, o', _, g, _⟩ := live_at t l
    rw [e] at g; cases g
  rw [wl_dead l]; exact e
/-- .. and without them again -/
noncomputable def noLive (μ : List Addr) (h : Hc) (G : Hp) : Hp := open Classical in fun a => if Live μ h a then none else G a
theorem nl_live {a : Addr} (l : Live μ h a) : noLive μ h G a = none := if_pos l
theorem nl_dead {a : Addr} (l : ¬ Live μ h a) : noLive μ h G a = G a := if_neg l
theorem nl_ext (t : Ht K mg G μ h H) {H1 G1 : Hp} (x : Ext H (withLive μ h G H) H1 G1) : Ext H G H1 (noLive μ h G1) := by
  refine ⟨x.all, fun a o e => ?_, fun a o e => ?_, fun a e => ?_⟩
  · have l : ¬ Live μ h a := fun l => by
      obtain ⟨c, o', _, g, _⟩ := live_at t l
      rw [e] at g; cases g
    rw [nl_dead l]
    exact x.stl _ _ (wl_G t _ _ e)
  · by_cases l : Live μ h a
    · rw [nl_live l] at e; cases e
    · rw [nl_dead l] at e; exact x.sub _ _ e
  · by_cases l : Live μ h a
    · rw [nl_live l] at e; exact absurd rfl e
    · rw [nl_dead l] at e
      rcases x.new a e with z | z
      · rw [wl_dead l] at z; exact .inl z
      · exact .inr z
/-- a live cell is no tuple -/
theorem live_tup (t : Ht K mg G μ h H) {H1 G1 : Hp} (x : Ext H (withLive μ h G H) H1 G1) {a : Addr} {xs : List V} (q : SqT K G1 a xs) : SqT K (noLive μ h G1) a xs := by
  rcases q with q | q
  · have l : ¬ Live μ h a := fun l => by
      obtain ⟨c, o, ne, g, ho, hc⟩ := live_at t l
      have e : G1 a = some o := x.stl _ _ (by rw [wl_live l]; exact ho)
      have hf : ∀ u, o ≠ .frz u (.tup xs) ∧ o ≠ .tup xs := fun u => by
        cases c with
        | lst _ => obtain ⟨_, rfl, _⟩ := hc; exact ⟨nofun, nofun⟩
        | dct _ => obtain ⟨_, rfl, _⟩ := hc; exact ⟨nofun, nofun⟩
        | obj _ _ => obtain ⟨_, _, _, _, rfl, _⟩ := hc; exact ⟨nofun, nofun⟩
        | dead => exact absurd rfl ne
      rcases q with q | ⟨u, q⟩
      · rw [e] at q; cases q; exact (hf default).2 rfl
      · rw [e] at q; cases q; exact (hf u).1 rfl
    refine .inl ?_
    rcases q with q | ⟨u, q⟩
    · exact .inl (by rw [nl_dead l]; exact q)
    · exact .inr ⟨u, by rw [nl_dead l]; exact q⟩
  · exact .inr q
mutual
theorem rep_nl (t : Ht K mg G μ h H) {H1 G1 : Hp} (x : Ext H (withLive μ h G H) H1 G1) : ∀ (d : Dat) (v : V), Rep K G1 v d → lfree d = true → Rep K (noLive μ h G1) v d
  | .none, _, r, _ => by cases r; exact .non
  | .bool b, _, r, _ => by cases r; exact .bl b
  | .int i, _, r, _ => by cases r; exact .int i
  | .str s, _, r, _ => by cases r; exact .str s
  | .list ds, _, r, e => by simp only [lfree] at e; cases e
  | .tuple ds, _, r, e => by
    simp only [lfree] at e
    cases r with | tup q r => exact .tup (live_tup t x q) (reps_nl t x ds _ r e)
  | .dict ds, _, r, e => by simp only [lfree] at e; cases e
theorem reps_nl (t : Ht K mg G μ h H) {H1 G1 : Hp} (x : Ext H (withLive μ h G H) H1 G1) : ∀ (ds : List Dat) (vs : List V), Reps K G1 vs ds → lfrees ds = true → Reps K (noLive μ h G1) vs ds
  | [], _, r, _ => by cases r; exact .nil
  | d :: ds, _, r, e => by
    simp only [lfrees, Bool.and_eq_true] at e
    cases r with | cons r q => exact .cons (rep_nl t x d _ r e.1) (reps_nl t x ds _ q e.2)
end
theorem rdAll_reps (t : Ht K mg G μ h H) {xs : List AV} {vs : List V} {ds : List Dat} (r : AVRs K G μ vs xs) (e : rdAll h xs = some ds) : Reps K (withLive μ h G H) vs ds :=
  rdL_rep (fun x v d r e => rdA_rep t (wl_G t) (fun a l => wl_live l) 9 x v d r e) r e
end
/-- the promise of a def that is called with all read -/
theorem cald_go {k : Nat} {sg : Sig} {G H : Hp} {μ : List Addr} {h : Hc} {as : List AV} {vs : List V} {ds : List Dat} {Q : VK} {E : XK} (t : Ht X.K X.mg G μ h H) (r : AVRs X.K G μ vs as) (e : rdAll h as = some ds) (hl : vs.length = sg.ln.length)
    (q : match P.F k ds with
      | .ok d => ∀ v H' G', Ext H (withLive μ h G H) H' G' → Ext H G H' (noLive μ h G') → RK X.K sg.fr H H' G' v d → Q v H'
      | .exc c x => ∀ cls dx H' G', Ext H G H' (noLive μ h G') → (XR X.K X.mg H' G' cls dx c x) → E cls dx H'
      | .bad => False) : spD X.K X.mg sg (P.F k) vs H Q E := by
  refine ⟨withLive μ h G H, ds, wl_sub t, hl, reps_rasA (rdAll_reps t r e), ?_⟩
  cases hF : P.F k ds with
  | ok d => rw [hF] at q; exact fun v H' G' x r => q v H' G' x (nl_ext t x) r
  | exc c y => rw [hF] at q; exact fun cls dx H' G' x r => q cls dx H' G' (nl_ext t x) r
  | bad => rw [hF] at q; exact q
theorem RK.rep {K : PySem.W.Frag} {k : Nat} (hk : k ≠ 1) {H H' G' : Hp} {v : V} {d : Dat} (r : RK K k H H' G' v d) (e : lfree d = true) : Rep K G' v d := by
  match k, r with
  | 0, r => exact r
  | 1, _ => exact absurd rfl hk
  | 2, ⟨a, vs, ds, e1, e2, _⟩ => subst e2; simp only [lfree] at e; cases e
  | k + 3, r => exact r.1
theorem x_cald {k : Nat} {nm : Str} {np : Pos} {xs : List Expr} {es : XEs} {sg : Sig} (g : GdO X T P S O n m W) (hs : T.fns[k]? = some sg) (hn : sg.nm = nm) (hk : k < n) (hg : glB X.env.scope nm = true) (ho : okN nm = true)
    (hw : sg.kw = none) (hcl : (!T.cl || sg.cl) = true) (hfr : sg.fr ≠ 1) (hl : sg.ln.length = (y :: xs).length) (hl2 : lenXs es = (y :: xs).length) (hp : plains (y :: xs) = true) (hx : PA X (y :: xs) (tXs X P O W es)) :
    PE X (.Call (.Name nm np) (y :: xs) [] pos) (tX X P O W (.cald k es)) := by
  have hx0 := g.gd.fns k sg hk hs
  unfold FnX at hx0
  rw [hw] at hx0
  obtain ⟨f, fd, ps, dfs, dvs, sp, h1, h2, h3, h4, h5, h6⟩ := hx0
  subst hn
  have hp' := hp
  unfold plains at hp'
  rw [List.all_cons, Bool.and_eq_true] at hp'
  have hg' : X.env.scope.names.lookup sg.nm = some .globalImplicit := of_decide_eq_true hg
  refine PE.imp (pe_callSD h3 g.gd.room hg' h1 h2 h4 h5 (fun σ => passB g.gd.tk hcl σ) hx (okN_d ho) (star_cons hp'.1) (no_star hp'.2)) fun σ H Q ⟨G, μ, h, ρ, t, er, q⟩ => ?_
  simp only [xv] at q
  refine bndXs (Q' := fun vs H1 => sp (vs ++ dvs) H1 Q (WE W σ)) t er q fun as vs hh H1 G1 μ1 e1 l1 t1 er1 r1 q1 => ?_
  cases e2 : rdAll hh as with
  | none => rw [e2] at q1; exact q1.elim
  | some ds =>
    rw [e2] at q1
    simp only at q1
    refine h6 vs H1 Q (WE W σ) (cald_go (k := k) t1 r1 e2 (by rw [r1.length, xvs_len e1, hl, hl2]) ?_)
    cases hF : P.F k ds with
    | ok d =>
      rw [hF] at q1
      intro v H' G' x0 x r
      simp only [lft_ok, lfR] at q1
      split at q1
      · rename_i hd
        exact q1 H' _ μ1 ⟨x.stl, List.prefix_refl _⟩ (t1.ext x) v (.fz (rep_nl t1 x0 d v (r.rep hfr hd) hd))
      · exact q1.elim
    | exc c y =>
      rw [hF] at q1
      intro cls dx H' G' x r
      obtain ⟨r1, r2⟩ := r
      cases y with
      | none => exact q1 cls dx H' _ μ1 ⟨x.stl, List.prefix_refl _⟩ (t1.ext x) ⟨r1, r2⟩
      | some d => exact q1.elim
    | bad => rw [hF] at q1; exact q1
end
end NW
end

section
set_option maxHeartbeats 4000000
namespace NW
open PySem PySem.Spec PyProof.Rows L2
section
variable {K : PySem.W.Frag} {mg : Str → Option Value} {G H G1 G2 : Hp} {μ : List Addr} {h : Hc}
mutual
theorem rep_lf (f : ∀ b xs, SqT K G1 b xs → SqT K G2 b xs) : ∀ (d : Dat) (v : V), Rep K G1 v d → lfree d = true → Rep K G2 v d
  | .none, _, r, _ => by cases r; exact .non
  | .bool b, _, r, _ => by cases r; exact .bl b
  | .int i, _, r, _ => by cases r; exact .int i
  | .str s, _, r, _ => by cases r; exact .str s
  | .list ds, _, r, e => by simp only [lfree] at e; cases e
  | .tuple ds, _, r, e => by
    simp only [lfree] at e
    cases r with | tup q r => exact .tup (f _ _ q) (reps_lf f ds _ r e)
  | .dict ds, _, r, e => by simp only [lfree] at e; cases e
theorem reps_lf (f : ∀ b xs, SqT K G1 b xs → SqT K G2 b xs) : ∀ (ds : List Dat) (vs : List V), Reps K G1 vs ds → lfrees ds = true → Reps K G2 vs ds
  | [], _, r, _ => by cases r; exact .nil
  | d :: ds, _, r, e => by
    simp only [lfrees, Bool.and_eq_true] at e
    cases r with | cons r q => exact .cons (rep_lf f d _ r e.1) (reps_lf f ds _ q e.2)
end
theorem trkP_ok : ∀ {es p l q : List Dat}, trkP es = some (p, l, q) → es = p ++ .list l :: q ∧ lfrees p = true ∧ lfrees l = true ∧ lfrees q = true
  | [], _, _, _, e => by simp only [trkP] at e; cases e
  | d :: r, p, l, q, e => by
    have rest : (if lfree d then (match trkP r with
      | some (p, l, q) => some (d :: p, l, q)
      | none => none) else none) = some (p, l, q) → d :: r = p ++ .list l :: q ∧ lfrees p = true ∧ lfrees l = true ∧ lfrees q = true := fun e => by
      split at e
      · rename_i hd
        split at e
        · rename_i p' l' q' e1
          cases e
          obtain ⟨e2, e3, e4, e5⟩ := trkP_ok e1
          exact ⟨by rw [e2]; rfl, by simp [lfrees, hd, e3], e4, e5⟩
        · cases e
      · cases e
    cases d with
    | list ds =>
      simp only [trkP] at e
      split at e
      · rename_i hd
        cases e
        rw [Bool.and_eq_true] at hd
        exact ⟨rfl, rfl, hd.1, hd.2⟩
      · cases e
    | _ => exact rest e
end
section
variable {X : Cx} {T : Tx} {P : Pg} {S : List SigO} {O : PgO} {n m : Nat} {W : WX} {x y z : Expr} {pos : Pos} {a b c : XE}
theorem trkD_ok {σ : L2.St} {G H : Hp} {μ : List Addr} {h : Hc} {Q : VK} {d : Dat} {v : V} {H' G' : Hp} (t : Ht X.K X.mg G μ h H) (q : EndR X W σ G μ (RV X Q) (trkD d h)) (x0 : Ext H (withLive μ h G H) H' G') (r : Rep X.K G' v d) (fr : FreshC X.K H G' v d) : Q v H' := by
  have x := nl_ext t x0
  have lf : lfree d = true → EndR X W σ G μ (RV X Q) (.ok (.fz d) h) → Q v H' := fun e q => q H' _ μ ⟨x.stl, List.prefix_refl _⟩ (t.ext x) v (.fz (rep_nl t x0 d v r e))
  have oth : EndR X W σ G μ (RV X Q) (if lfree d then .ok (.fz d) h else .bad) → Q v H' := fun q => by
    split at q
    · rename_i e
      exact lf e q
    · exact q.elim
  cases d with
  | tuple es =>
    simp only [trkD] at q
    split at q
    · rename_i e
      exact lf (by simp only [lfree]; exact e) q
    · split at q
      · rename_i p l qq e1
        obtain ⟨e2, e3, e4, e5⟩ := trkP_ok e1
        subst e2
        obtain ⟨tt, vs, rfl, f2, f3, f4⟩ := fr _ rfl
        have hi : p.length < (p ++ PyData.list l :: qq).length := by simp
        have hiv : p.length < vs.length := by rw [f3.length]; exact hi
        obtain ⟨a, us, hu, na, ga, ru⟩ := f4 p.length vs[p.length] (.list l) (List.getElem?_eq_getElem hiv) (by simp) l rfl
        have nl : ¬ Live μ h a := fun l => by
          obtain ⟨c, o, _, _, ho, _⟩ := live_at t l
          rw [na] at ho; cases ho
        have na' : G a = none := t.sub.free na
        -- what stays: all but that list
        have gg : ∃ G2 : Hp, (∀ b, G2 b = if b = a then none else noLive μ h G' b) := ⟨_, fun _ => rfl⟩
        obtain ⟨G2, hG2⟩ := gg
        have x2 : Ext H G H' G2 := by
          refine ⟨x.all, fun b o e => ?_, fun b o e => ?_, fun b e => ?_⟩
          · have hb : b ≠ a := fun z => by subst z; rw [na'] at e; cases e
            rw [hG2, if_neg hb]; exact x.stl _ _ e
          · rw [hG2] at e
            split at e
            · cases e
            · exact x.sub _ _ e
          · rw [hG2] at e
            split at e
            · exact absurd rfl e
            · exact x.new b e
        have g2a : G2 a = none := by rw [hG2, if_pos rfl]
        have ha : H' a = some (.lst us) := x.sub _ _ (by rw [nl_dead nl]; exact ga)
        have tup : ∀ b xs, SqT X.K G' b xs → SqT X.K G2 b xs := fun b xs q => by
          have q2 := live_tup t x0 q
          rcases q2 with q2 | q2
          · refine .inl ?_
            have hb : b ≠ a := fun z => by
              subst z
              rcases q2 with q2 | ⟨u, q2⟩ <;> rw [nl_dead nl, ga] at q2 <;> cases q2
            rcases q2 with q2 | ⟨u, q2⟩
            · exact .inl (by rw [hG2, if_neg hb]; exact q2)
            · exact .inr ⟨u, by rw [hG2, if_neg hb]; exact q2⟩
          · exact .inr q2
        have rl := reps_lf tup l us ru e4
        have l2 : Le G2 μ G2 (μ ++ [a]) := Le.new G2 μ a
        have t2 : Ht X.K X.mg G2 (μ ++ [a]) (h ++ [.lst (l.map .fz)]) H' := t.laid x2 na g2a ha ⟨us, rfl, (reps_fzs rl).mono l2⟩
        refine q H' G2 (μ ++ [a]) ⟨x2.stl, List.prefix_append _ _⟩ t2 _ (.tp (tup _ _ f2) ?_)
        -- the parts
        have rp := f3.take p.length
        have rq := f3.drop (p.length + 1)
        have d1 : (p ++ PyData.list l :: qq).take p.length = p := by simp
        have d2 : (p ++ PyData.list l :: qq).drop (p.length + 1) = qq := by
          rw [List.drop_append]
          simp
        rw [d1] at rp
        rw [d2] at rq
        have ev : vs = vs.take p.length ++ vs[p.length] :: vs.drop (p.length + 1) := by
          rw [← List.drop_eq_getElem_cons hiv, List.take_append_drop]
        rw [ev, hu]
        refine ((reps_fzs (reps_lf tup p _ rp e3)).mono l2).append (.cons (.loc t.last) ((reps_fzs (reps_lf tup qq _ rq e5)).mono l2))
      · exact q.elim
  | _ => exact oth q
theorem x_calt {k : Nat} {nm : Str} {np : Pos} {xs : List Expr} {es : XEs} {sg : Sig} (g : GdO X T P S O n m W) (hs : T.fns[k]? = some sg) (hn : sg.nm = nm) (hk : k < n) (hg : glB X.env.scope nm = true) (ho : okN nm = true)
    (hw : sg.kw = none) (hcl : (!T.cl || sg.cl) = true) (hfr : sg.fr = 3) (hl : sg.ln.length = (y :: xs).length) (hl2 : lenXs es = (y :: xs).length) (hp : plains (y :: xs) = true) (hx : PA X (y :: xs) (tXs X P O W es)) :
    PE X (.Call (.Name nm np) (y :: xs) [] pos) (tX X P O W (.calt k es)) := by
  have hx0 := g.gd.fns k sg hk hs
  unfold FnX at hx0
  rw [hw] at hx0
  obtain ⟨f, fd, ps, dfs, dvs, sp, h1, h2, h3, h4, h5, h6⟩ := hx0
  subst hn
  have hp' := hp
  unfold plains at hp'
  rw [List.all_cons, Bool.and_eq_true] at hp'
  have hg' : X.env.scope.names.lookup sg.nm = some .globalImplicit := of_decide_eq_true hg
  refine PE.imp (pe_callSD h3 g.gd.room hg' h1 h2 h4 h5 (fun σ => passB g.gd.tk hcl σ) hx (okN_d ho) (star_cons hp'.1) (no_star hp'.2)) fun σ H Q ⟨G, μ, h, ρ, t, er, q⟩ => ?_
  simp only [xv] at q
  refine bndXs (Q' := fun vs H1 => sp (vs ++ dvs) H1 Q (WE W σ)) t er q fun as vs hh H1 G1 μ1 e1 l1 t1 er1 r1 q1 => ?_
  cases e2 : rdAll hh as with
  | none => rw [e2] at q1; exact q1.elim
  | some ds =>
    rw [e2] at q1
    simp only at q1
    refine h6 vs H1 Q (WE W σ) (cald_go (k := k) t1 r1 e2 (by rw [r1.length, xvs_len e1, hl, hl2]) ?_)
    cases hF : P.F k ds with
    | ok d =>
      rw [hF] at q1
      intro v H' G' x0 x r
      rw [hfr] at r
      exact trkD_ok t1 q1 x0 r.1 r.2
    | exc c y =>
      rw [hF] at q1
      intro cls dx H' G' x r
      obtain ⟨r1, r2⟩ := r
      cases y with
      | none => exact q1 cls dx H' _ μ1 ⟨x.stl, List.prefix_refl _⟩ (t1.ext x) ⟨r1, r2⟩
      | some d => exact q1.elim
    | bad => rw [hF] at q1; exact q1
end
end NW
end

section
set_option maxHeartbeats 4000000
namespace NW
open PySem PySem.Spec PyProof.Rows L2
section
variable {X : Cx} {T : Tx} {P : Pg} {S : List SigO} {O : PgO} {n m : Nat} {W : WX} {x y z : Expr} {pos : Pos} {a b c : XE}
theorem x_bi {f : Bi} {np : Pos} {xs : List Expr} {es : XEs} (g : GdO X T P S O n m W) (hg : glB X.env.scope (nmB f) = true) (ho : okN (nmB f) = true) (hp : plains (y :: xs) = true) (hx : PA X (y :: xs) (tXs X P O W es)) :
    PE X (.Call (.Name (nmB f) np) (y :: xs) [] pos) (tX X P O W (.bi f es)) := by
  have hp' := hp
  unfold plains at hp'
  rw [List.all_cons, Bool.and_eq_true] at hp'
  have hg' : X.env.scope.names.lookup (nmB f) = some .globalImplicit := of_decide_eq_true hg
  have hm : X.mg (nmB f) = none := g.gd.blt _ (by cases f <;> simp [bltN, nmB])
  by_cases hL : f = .list
  · subst hL
    have hv : bootBuiltins (nmB .list) = some (.type "list") := boot_bi .list
    refine PE.imp (pe_callTy call_listN hg' hm hv hx (okN_n ho) (okN_d ho) (star_cons hp'.1) (no_star hp'.2)) fun σ H Q ⟨G, μ, h, ρ, t, er, q⟩ => ?_
    simp only [xv] at q
    refine bndXs (Q' := fun vs H1 => rListN X.K vs H1 Q) t er q fun as vs hh H1 G1 μ1 e1 l1 t1 er1 r1 q1 => ?_
    cases e2 : flL hh as with
    | none => rw [e2] at q1; exact q1.elim
    | some ds =>
      rw [e2] at q1
      simp only at q1
      obtain ⟨d, hF, fin⟩ := lft_op (bi_ne .list ds) q1 t1
      have key : ∃ e rs, ds = [e] ∧ d = .list rs := by
        rcases biD1 hF with ⟨e, rfl⟩ | ⟨e, e', rfl⟩
        · cases e <;> simp only [biD] at hF <;> cases hF <;> exact ⟨_, _, rfl, rfl⟩
        · cases e <;> simp only [biD] at hF <;> cases hF
      obtain ⟨e, rs, rfl, rfl⟩ := key
      exact ⟨G1, e, rs, t1.sub, flL_rws t1 r1 e2, hF, New.still fin⟩
  · by_cases hS : f = .sorted
    · subst hS
      have hv : bootBuiltins (nmB .sorted) = some (.builtin "sorted") := boot_bi .sorted
      refine PE.imp (pe_callB (call_sortedN g.gd.calm (by have := g.gd.room.un; omega)) hg' hm hv hx (okN_n ho) (okN_d ho) (star_cons hp'.1) (no_star hp'.2)) fun σ H Q ⟨G, μ, h, ρ, t, er, q⟩ => ?_
      simp only [xv] at q
      refine bndXs (Q' := fun vs H1 => rSortN X.K vs H1 Q) t er q fun as vs hh H1 G1 μ1 e1 l1 t1 er1 r1 q1 => ?_
      cases e2 : flL hh as with
      | none => rw [e2] at q1; exact q1.elim
      | some ds =>
        rw [e2] at q1
        simp only at q1
        obtain ⟨d, hF, fin⟩ := lft_op (bi_ne .sorted ds) q1 t1
        have key : ∃ e rs, ds = [e] ∧ d = .list rs := by
          rcases biD1 hF with ⟨e, rfl⟩ | ⟨e, e', rfl⟩
          · cases e <;> simp only [biD, sortD] at hF <;> try (cases hF; done)
            split at hF
            · split at hF <;> cases hF
              exact ⟨_, _, rfl, rfl⟩
            · unfold sortND at hF
              split at hF
              · split at hF <;> cases hF
                exact ⟨_, _, rfl, rfl⟩
              · cases hF
          · cases e <;> simp only [biD] at hF <;> cases hF
        obtain ⟨e, rs, rfl, rfl⟩ := key
        exact ⟨G1, e, rs, t1.sub, flL_rws t1 r1 e2, hF, New.still fin⟩
    have go : ∀ σ H Q, tX X P O W (.bi f es) σ H Q → tCB (rBi X.K f) (tXs X P O W es) σ H Q := fun σ H Q ⟨G, μ, h, ρ, t, er, q⟩ => by
      simp only [xv] at q
      refine bndXs (Q' := fun vs H1 => rBi X.K f vs H1 Q) t er q fun as vs hh H1 G1 μ1 e1 l1 t1 er1 r1 q1 => ?_
      cases e2 : flL hh as with
      | none => rw [e2] at q1; exact q1.elim
      | some ds =>
        rw [e2] at q1
        simp only at q1
        obtain ⟨d, hF, fin⟩ := lft_op (bi_ne f ds) q1 t1
        exact ⟨G1, ds, d, t1.sub, flL_rws t1 r1 e2, hF, fin⟩
    have hc := call_bi (X := X) g.gd.calm (by have := g.gd.room.un; omega) f
    have hv := boot_bi f
    cases f <;> first
      | exact PE.imp (pe_callB hc hg' hm hv hx (okN_n ho) (okN_d ho) (star_cons hp'.1) (no_star hp'.2)) go
      | exact PE.imp (pe_callTy hc hg' hm hv hx (okN_n ho) (okN_d ho) (star_cons hp'.1) (no_star hp'.2)) go
/-- either of two -/
theorem CallR.or {f : Value} {r r' : List V → Hp → VK → Prop} (h : CallR X f r) (h' : CallR X f r') : CallR X f (fun xs H Q => r xs H Q ∨ r' xs H Q) := fun pins s σ H xs us Q I rr q => by
  rcases q with q | q
  · exact h pins s σ H xs us Q I rr q
  · exact h' pins s σ H xs us Q I rr q
theorem x_len {np : Pos} (g : GdO X T P S O n m W) (hg : glB X.env.scope "len" = true) (hp : plainE y = true) (hx : PE X y (tX X P O W a)) :
    PE X (.Call (.Name "len" np) [y] [] pos) (tX X P O W (.len a)) := by
  have hg' : X.env.scope.names.lookup ("len" : Str) = some .globalImplicit := of_decide_eq_true hg
  refine PE.imp (pe_callB (CallR.or call_len call_lenD) hg' (g.gd.blt _ (by decide +kernel)) (boot_bi .len) (pa_cons hx pa_nil (star_cons hp)) (by decide) (by decide) (star_cons hp) rfl) fun σ H Q ⟨G, μ, h, ρ, t, er, q⟩ => ?_
  simp only [xv] at q
  refine bndX t er q fun d v h1 H1 G1 μ1 l1 t1 er1 r1 q1 => ?_
  cases d with
  | fz d => exact q1.elim
  | tp xs =>
    simp only [lenA] at q1
    cases r1 with
    | tp q r =>
      rw [← r.length] at q1
      exact .inl ⟨_, _, rfl, .inr ⟨_, sqT_keep t1.sub q, rfl⟩, q1.fin t1 _ (.fz (.int _))⟩
  | loc n =>
    cases hh : h1[n]? with
    | none => simp only [lenA, hh] at q1; exact q1.elim
    | some c =>
      cases c with
      | lst xs =>
        simp only [lenA, hh] at q1
        obtain ⟨p, vs, rfl, e2, e3, e4, e5⟩ := t1.lst hh r1
        rw [← e5.length] at q1
        exact .inl ⟨_, _, rfl, .inl ⟨_, SqL.of e4, rfl⟩, q1.fin t1 _ (.fz (.int _))⟩
      | dct kvs =>
        simp only [lenA, hh] at q1
        obtain ⟨p, ws, rfl, e2, e3, e4, e5, e6⟩ := t1.dct hh r1
        rw [← kvs_len e5] at q1
        exact .inr ⟨_, _, rfl, e4, q1.fin t1 _ (.fz (.int _))⟩
      | _ => simp only [lenA, hh] at q1; exact q1.elim
theorem x_isi {t : Ty} {f nm : Str} {np np2 : Pos} (g : GdO X T P S O n m W) (hf : f = ("isinstance" : Str)) (hn : nm = PySem.Str.ofString (nmT t)) (h1 : glB X.env.scope f = true) (h2 : glB X.env.scope nm = true) (ho : okN nm = true) (hp : plainE x = true)
    (ha : PE X x (tX X P O W a)) : PE X (.Call (.Name f np) [x, .Name nm np2] [] pos) (tX X P O W (.isi t a)) := by
  subst hf hn
  have g1 : X.env.scope.names.lookup ("isinstance" : Str) = some .globalImplicit := of_decide_eq_true h1
  have g2 : X.env.scope.names.lookup (PySem.Str.ofString (nmT t)) = some .globalImplicit := of_decide_eq_true h2
  have hm : X.mg (PySem.Str.ofString (nmT t)) = none := g.gd.blt _ (by cases t <;> decide +kernel)
  have hb : PE X (.Name (PySem.Str.ofString (nmT t)) np2) (tC (.ty (nmT t))) := pe_bltn g2 hm (boot_ty t) rfl (okN_n ho) (okN_d ho)
  refine PE.imp (pe_callB (call_isiD t) g1 (g.gd.blt _ (by decide +kernel)) PyProof.Rows.boot_isinstance (pa_cons ha (pa_cons hb pa_nil) (star_cons hp)) (by decide) (by decide) (star_cons hp) rfl) fun σ H Q ⟨G, μ, h, ρ, tt, er, q⟩ => ?_
  simp only [xv] at q
  refine bndX tt er q fun d v h1 H1 G1 μ1 l1 t1 er1 r1 q1 => ?_
  cases e2 : rd h1 d with
  | none => rw [e2] at q1; exact q1.elim
  | some d' =>
    rw [e2] at q1
    simp only at q1
    cases hF : isiD t d' with
    | ok r => rw [hF] at q1; exact ⟨H1, d', v, r, Same.refl _, rfl, .st (rd_rep t1 r1 e2), hF, q1.fin t1 _ (.fz (.bl r))⟩
    | exc c x => exact absurd hF (isi_ne _ _ _ _)
    | bad => rw [hF] at q1; exact q1.elim
/-! ### methods of lists and dicts -/
theorem isLA_is {d : AV} {v : V} {h : Hc} {G H : Hp} {μ : List Addr} (t : Ht X.K X.mg G μ h H) (r : AVR X.K G μ v d) (e : isLA h d = true) : tyV X.K "list" v H := by
  cases d with
  | loc n =>
    cases hh : h[n]? with
    | none => simp only [isLA, hh] at e; cases e
    | some c =>
      cases c with
      | lst xs =>
        obtain ⟨p, vs, rfl, e2, e3, e4, e5⟩ := t.lst hh r
        exact .inl ⟨rfl, vs, SqL.of e4⟩
      | _ => simp only [isLA, hh] at e; cases e
  | _ => cases e
theorem x_append {apos : Pos} (hb : baseE x = true) (hp : plainE y = true) (hl : (apos.endLine == pos.line) = true) (ha : PE X x (tX X P O W a)) (hy : PE X y (tX X P O W b)) :
    PE X (.Call (.Attribute x "append" apos) [y] [] pos) (tX X P O W (.m1 .append a b)) :=
  PE.imp (pe_bm PySem.F.plainAttrs_list PySem.F.slot_list_append PySem.F.type_list_append mt_append ha (pa_cons hy pa_nil (star_cons hp)) (base_attr hb) (few_one hp) hl (star_cons hp) rfl) fun σ H Q ⟨G, μ, h, ρ, t, er, q⟩ => by
    simp only [xv] at q
    refine bndX t er q fun d v h1 H1 G1 μ1 l1 t1 er1 r1 q1 => ?_
    split at q1
    · rename_i hL
      refine ⟨isLA_is t1 r1 hL, ?_⟩
      refine bndX (Q' := fun w H2 => rAppend v [w] H2 Q) t1 er1 q1 fun e w h2 H2 G2 μ2 l2 t2 er2 r2 q2 => ?_
      have r1' := r1.mono l2
      cases d with
      | loc n =>
        cases hh : h2[n]? with
        | none => simp only [m1A, hh] at q2; exact q2.elim
        | some c =>
          cases c with
          | lst xs =>
            simp only [m1A, hh] at q2
            split at q2
            · rename_i hz
              obtain ⟨p, vs, rfl, e2, e3, e4, e5⟩ := t2.lst hh r1'
              refine ⟨p, vs, w, rfl, rfl, e4, lt_line (by rw [e5.length]; exact hz), ?_⟩
              exact q2.fin (t2.set hh (by simp) e2 ⟨_, rfl, e5.append (.cons r2 .nil)⟩) _ (.fz .non)
            · exact q2.elim
          | _ => simp only [m1A, hh] at q2; exact q2.elim
      | _ => exact q2.elim
    · exact q1.elim
theorem x_extend {apos : Pos} (hb : baseE x = true) (hp : plainE y = true) (hl : (apos.endLine == pos.line) = true) (ha : PE X x (tX X P O W a)) (hy : PE X y (tX X P O W b)) :
    PE X (.Call (.Attribute x "extend" apos) [y] [] pos) (tX X P O W (.m1 .extend a b)) :=
  PE.imp (pe_bm PySem.F.plainAttrs_list PySem.F.slot_list_extend PySem.F.type_list_extend mt_extend ha (pa_cons hy pa_nil (star_cons hp)) (base_attr hb) (few_one hp) hl (star_cons hp) rfl) fun σ H Q ⟨G, μ, h, ρ, t, er, q⟩ => by
    simp only [xv] at q
    refine bndX t er q fun d v h1 H1 G1 μ1 l1 t1 er1 r1 q1 => ?_
    split at q1
    · rename_i hL
      refine ⟨isLA_is t1 r1 hL, ?_⟩
      refine bndX (Q' := fun w H2 => rExtend v [w] H2 Q) t1 er1 q1 fun e w h2 H2 G2 μ2 l2 t2 er2 r2 q2 => ?_
      have r1' := r1.mono l2
      cases d with
      | loc n =>
        cases hh : h2[n]? with
        | none => simp only [m1A, hh] at q2; exact q2.elim
        | some c =>
          cases c with
          | lst xs =>
            simp only [m1A, hh] at q2
            obtain ⟨p, vs, rfl, e2, e3, e4, e5⟩ := t2.lst hh r1'
            cases e with
            | loc m =>
              simp only at q2
              cases hm : h2[m]? with
              | none => rw [hm] at q2; exact q2.elim
              | some c2 =>
                cases c2 with
                | lst ys =>
                  rw [hm] at q2
                  simp only at q2
                  split at q2
                  · rename_i hz
                    obtain ⟨p', vs', rfl, f2, f3, f4, f5⟩ := t2.lst hm r2
                    refine ⟨p, p', vs, vs', rfl, rfl, e4, f4, le_line (by rw [e5.length, f5.length]; omega), ?_⟩
                    exact q2.fin (t2.set hh (by simp) e2 ⟨_, rfl, e5.append f5⟩) _ (.fz .non)
                  · exact q2.elim
                | _ => rw [hm] at q2; exact q2.elim
            | _ => exact q2.elim
          | _ => simp only [m1A, hh] at q2; exact q2.elim
      | _ => exact q2.elim
    · exact q1.elim
theorem x_m0 {mm : MO0} {apos : Pos} {f : Str} (hf : f = (match mm with
      | .clear => ("clear" : Str)
      | .pop => "pop")) (hb : baseE x = true) (hl : (apos.endLine == pos.line) = true) (ha : PE X x (tX X P O W a)) :
    PE X (.Call (.Attribute x f apos) [] [] pos) (tX X P O W (.m0 mm a)) := by
  subst hf
  cases mm with
  | clear =>
    refine PE.imp (pe_bm0 PySem.F.plainAttrs_list PySem.F.slot_list_clear PySem.F.type_list_clear mt_clear ha (base_attr hb) hl) fun σ H Q ⟨G, μ, h, ρ, t, er, q⟩ => ?_
    simp only [xv] at q
    refine bndX t er q fun d v h1 H1 G1 μ1 l1 t1 er1 r1 q1 => ?_
    cases d with
    | loc n =>
      cases hh : h1[n]? with
      | none => simp only [m0A, hh] at q1; exact q1.elim
      | some c =>
        cases c with
        | lst xs =>
          simp only [m0A, hh] at q1
          obtain ⟨p, vs, rfl, e2, e3, e4, e5⟩ := t1.lst hh r1
          exact ⟨.inl ⟨rfl, vs, SqL.of e4⟩, p, vs, rfl, rfl, e4, q1.fin (t1.set hh (by simp) e2 ⟨_, rfl, .nil⟩) _ (.fz .non)⟩
        | _ => simp only [m0A, hh] at q1; exact q1.elim
    | _ => exact q1.elim
  | pop =>
    refine PE.imp (pe_bm0 PySem.F.plainAttrs_list PySem.F.slot_list_pop PySem.F.type_list_pop mt_pop ha (base_attr hb) hl) fun σ H Q ⟨G, μ, h, ρ, t, er, q⟩ => ?_
    simp only [xv] at q
    refine bndX t er q fun d v h1 H1 G1 μ1 l1 t1 er1 r1 q1 => ?_
    cases d with
    | loc n =>
      cases hh : h1[n]? with
      | none => simp only [m0A, hh] at q1; exact q1.elim
      | some c =>
        cases c with
        | lst xs =>
          simp only [m0A, hh] at q1
          obtain ⟨p, vs, rfl, e2, e3, e4, e5⟩ := t1.lst hh r1
          cases e6 : xs[xs.length - 1]? with
          | none => rw [e6] at q1; exact q1.elim
          | some u =>
            rw [e6] at q1
            obtain ⟨w, f1, f2⟩ := e5.get e6
            exact ⟨.inl ⟨rfl, vs, SqL.of e4⟩, p, vs, w, rfl, rfl, e4, by rw [e5.length]; exact f1, q1.fin (t1.set hh (by simp) e2 ⟨_, rfl, e5.dropLast⟩) _ f2⟩
        | _ => simp only [m0A, hh] at q1; exact q1.elim
    | _ => exact q1.elim
theorem m1_ofX {f : Str} {apos : Pos} (hb : baseE x = true) (h1 : plainE y = true) (hl : (apos.endLine == pos.line) = true) : L2.M1 X x f apos y pos :=
  ⟨base_attr hb, few_one h1, hl, by rw [star_cons h1]; rfl⟩
theorem x_dpop {apos : Pos} (hb : baseE x = true) (hp : plainE y = true) (hl : (apos.endLine == pos.line) = true) (ha : PE X x (tX X P O W a)) (hy : PE X y (tX X P O W b)) :
    PE X (.Call (.Attribute x "pop" apos) [y] [] pos) (tX X P O W (.m1 .dpop a b)) :=
  PE.imp (pe_dpop1 ha hy (m1_ofX hb hp hl)) fun σ H Q ⟨G, μ, h, ρ, t, er, q⟩ => by
    simp only [xv] at q
    refine bndX t er q fun d v h1 H1 G1 μ1 l1 t1 er1 r1 q1 => ?_
    split at q1
    · rename_i hL
      obtain ⟨p, rfl, hD⟩ := isDA_is t1 r1 hL
      refine ⟨p, rfl, hD, bndX t1 er1 q1 fun e w h2 H2 G2 μ2 l2 t2 er2 r2 q2 => ?_⟩
      have r1' := r1.mono l2
      cases d with
      | loc n =>
        cases hh : h2[n]? with
        | none => simp only [m1A, hh] at q2; exact q2.elim
        | some c =>
          cases c with
          | dct kvs =>
            simp only [m1A, hh] at q2
            obtain ⟨p', ws, ep, e2, e3, e4, e5, e6⟩ := t2.dct hh r1'
            cases ep
            cases e with
            | fz e =>
              cases e with
              | str s =>
                simp only at q2
                cases r2 with
                | fz r2 =>
                  cases r2
                  rcases lkA_val (x := s) e5 e6 with ⟨u', d', f1, f2, f3⟩ | ⟨f1, f2⟩
                  · rw [f2] at q2
                    obtain ⟨i1, i2⟩ := drop_val (x := s) e5 e6
                    exact ⟨ws, .inr s, u', e4, rfl, f1, q2.fin (t2.set hh (by simp) e2 ⟨_, rfl, i1, i2⟩) _ f3⟩
                  · rw [f2] at q2; exact q2.elim
              | _ => exact q2.elim
            | _ => exact q2.elim
          | _ => simp only [m1A, hh] at q2; exact q2.elim
      | _ => exact q2.elim
    · exact q1.elim
theorem x_setd {apos : Pos} (hb : baseE x = true) (hp : plainE y = true) (hp2 : plainE z = true) (hl : (apos.endLine == pos.line) = true) (ha : PE X x (tX X P O W a)) (hy : PE X y (tX X P O W b)) (hz : PE X z (tX X P O W c)) :
    PE X (.Call (.Attribute x "setdefault" apos) [y, z] [] pos) (tX X P O W (.m2 .setdefault a b c)) :=
  PE.imp (L2.pe_dsetd ha hy hz (m2_of hb hp hp2 hl)) fun σ H Q ⟨G, μ, h, ρ, t, er, q⟩ => by
    simp only [xv] at q
    refine bndX t er q fun d v h1 H1 G1 μ1 l1 t1 er1 r1 q1 => ?_
    split at q1
    · rename_i hL
      obtain ⟨p, rfl, hD⟩ := isDA_is t1 r1 hL
      refine ⟨p, rfl, hD, bndX t1 er1 q1 fun e w h2 H2 G2 μ2 l2 t2 er2 r2 q2 => ?_⟩
      refine bndX t2 er2 q2 fun f u h3 H3 G3 μ3 l3 t3 er3 r3 q3 => ?_
      have r1' := (r1.mono l2).mono l3
      have r2' := r2.mono l3
      cases d with
      | loc n =>
        cases e with
        | fz e =>
          cases e with
          | str s =>
            cases hh : h3[n]? with
            | none => simp only [m2A, hh] at q3; exact q3.elim
            | some c =>
              cases c with
              | dct kvs =>
                simp only [m2A, hh] at q3
                obtain ⟨p', ws, ep, e2, e3, e4, e5, e6⟩ := t3.dct hh r1'
                cases ep
                split at q3
                · rename_i hz
                  cases r2' with
                  | fz r2' =>
                    cases r2'
                    refine ⟨ws, .inr s, e4, rfl, lt_line (by rw [kvs_len e5]; exact hz), fun v hv => ?_, fun hv => ?_⟩
                    · rcases lkA_val (x := s) e5 e6 with ⟨u', d', f1, f2, f3⟩ | ⟨f1, f2⟩
                      · rw [hv] at f1
                        cases f1
                        rw [f2] at q3
                        exact q3.fin t3 _ f3
                      · rw [hv] at f1; cases f1
                    · rcases lkA_val (x := s) e5 e6 with ⟨u', d', f1, f2, f3⟩ | ⟨f1, f2⟩
                      · rw [hv] at f1; cases f1
                      · have e7 := put_val (mg := X.mg) (x := s) e5 e6 r3
                        have e8 : putA kvs s f = kvs ++ [(s, f)] := by unfold putA; rw [f2]
                        rw [f2] at q3
                        rw [e8] at e7
                        exact q3.fin (t3.set hh (by simp) e2 e7) _ r3
                · exact q3.elim
              | _ => simp only [m2A, hh] at q3; exact q3.elim
          | _ => exact q3.elim
        | _ => exact q3.elim
      | _ => cases e <;> first | exact q3.elim | (rename_i w; cases w <;> exact q3.elim)
    · exact q1.elim
/-- what is changed no more -/
theorem x_frz (ha : PE X x (tX X P O W a)) : PE X x (tX X P O W (.frz a)) :=
  PE.imp ha fun σ H Q ⟨G, μ, h, ρ, t, er, q⟩ => by
    simp only [xv] at q
    refine bndX t er q fun d v h1 H1 G1 μ1 l1 t1 er1 r1 q1 => ?_
    cases e : frz d h1 with
    | none => rw [e] at q1; exact q1.elim
    | some p =>
      obtain ⟨d', h'⟩ := p
      rw [e] at q1
      obtain ⟨G', ⟨s1, t', _, _⟩, r'⟩ := frzA_ok 9 G1 h1 d v d' h' t1 r1 e
      exact q1 H1 G' μ1 ⟨s1, List.prefix_refl _⟩ t' v (.fz r')
end
end NW
end

section
set_option maxHeartbeats 4000000
/-! Comprehensions over cells. -/
namespace NW
open PySem PySem.Spec PyProof.Rows L2
section
variable {X : Cx} {T : Tx} {P : Pg} {S : List SigO} {O : PgO} {n m : Nat} {W : WX} {x y z : Expr} {pos : Pos} {a b c : XE}
variable {G G' H H' : Hp} {μ μ' : List Addr} {h : Hc} {ρ : Ex} {σ : L2.St}
theorem unX_length (ρ : Ex) (vs : List Nat) : (unX vs ρ).length = ρ.length := by
  induction vs with
  | nil => rfl
  | cons v vs ih => unfold unX; rw [List.length_set, ih]
theorem unX_get (ρ : Ex) : ∀ (vs : List Nat) (j : Nat), (unX vs ρ)[j]? = if j ∈ vs ∧ j < ρ.length then some none else ρ[j]?
  | [], j => by simp [unX]
  | v :: vs, j => by
    unfold unX
    have hl := unX_length ρ vs
    by_cases h : v = j
    · subst h
      by_cases hj : v < ρ.length
      · rw [List.getElem?_set_self (by rw [hl]; exact hj), if_pos ⟨List.mem_cons_self, hj⟩]
      · rw [List.getElem?_eq_none (by rw [List.length_set, hl]; omega), if_neg (fun z => hj z.2), List.getElem?_eq_none (by omega)]
    · rw [List.getElem?_set_ne h, unX_get ρ vs j]
      have e : (j ∈ v :: vs ∧ j < ρ.length) ↔ (j ∈ vs ∧ j < ρ.length) := by
        rw [List.mem_cons]
        constructor
        · rintro ⟨z | z, k⟩
          · exact absurd z.symm h
          · exact ⟨z, k⟩
        · rintro ⟨z, k⟩; exact ⟨.inr z, k⟩
      simp only [e]
theorem EvR.wipe (er : EvR X.K G μ ρ σ) (vs : List Nat) : EvR X.K G μ (unX vs ρ) (wipe σ vs) := by
  refine ⟨by rw [unX_length, wipe_length, er.len], fun j s e => ?_⟩
  rw [unX_get] at e
  rw [wipe_get]
  by_cases h : j ∈ vs ∧ j < ρ.length
  · rw [if_pos h] at e
    cases e
  · rw [if_neg h] at e
    rw [if_neg (by rw [← er.len]; exact h)]
    exact er.at_ j s e
theorem EvR.set' (er : EvR X.K G μ ρ σ) {v : V} {x : AV} (r : AVR X.K G μ v x) (i : Nat) : EvR X.K G μ (ρ.set i (some x)) (σ.set i (some v)) := by
  refine ⟨by simp [er.len], fun j a e => ?_⟩
  by_cases z : i = j
  · subst z
    have hi : i < ρ.length := by
      have := (List.getElem?_eq_some_iff.mp e).1
      simpa using this
    rw [List.getElem?_set_self hi] at e
    cases e
    exact ⟨v, List.getElem?_set_self (by rw [← er.len]; exact hi), r⟩
  · rw [List.getElem?_set_ne z] at e ⊢
    exact er.at_ j a e
theorem all_setX2 {Q : L2.St → Hp → Prop} : ∀ {is : List Nat} {vs : List V} {ds : List AV} {ρ : Ex} {σ : L2.St}, EvR X.K G μ ρ σ → AVRs X.K G μ vs ds → ds.length = is.length →
    (∀ σ', EvR X.K G μ ((is.zip ds).foldl (fun r p => r.set p.1 (some p.2)) ρ) σ' → (∀ j, j ∉ is → σ'[j]? = σ[j]?) → σ'.length = σ.length → Q σ' H) → gAll is vs σ H Q
  | [], vs, ds, ρ, σ, er, r, hl, c => by
    cases ds with
    | nil => cases r; exact ⟨rfl, c σ er (fun _ _ => rfl) rfl⟩
    | cons _ _ => simp at hl
  | i :: is, vs, ds, ρ, σ, er, r, hl, c => by
    cases ds with
    | nil => simp at hl
    | cons d ds =>
      cases r with
      | cons r t => exact ⟨_, _, rfl, all_setX2 (er.set' r i) t (by simpa using hl) fun σ' e k1 k2 => c σ' e (fun j hj => by
          rw [List.mem_cons, not_or] at hj
          rw [k1 j hj.2, List.getElem?_set_ne (fun z => hj.1 z.symm)]) (by rw [k2, List.length_set])⟩
theorem g_setX2 {tg : Tg} {v : V} {d : AV} {ρ1 : Ex} {Q : L2.St → Hp → Prop} (t : Ht X.K X.mg G μ h H) (er : EvR X.K G μ ρ σ) (r : AVR X.K G μ v d) (e : setX h tg d ρ = some ρ1)
    (c : ∀ σ', EvR X.K G μ ρ1 σ' → (∀ j, tgNo tg j → σ'[j]? = σ[j]?) → σ'.length = σ.length → Q σ' H) : tG X.K tg v σ H Q := by
  cases tg with
  | nm i =>
    simp only [setX] at e
    cases e
    exact c _ (er.set' r i) (fun j hj => List.getElem?_set_ne (fun z => hj z.symm)) (List.length_set)
  | tp is =>
    simp only [setX] at e
    cases q : prts h d with
    | none => rw [q] at e; cases e
    | some xs =>
      rw [q] at e
      simp only at e
      split at e <;> cases e
      rename_i hl
      have key : ∃ a vs, v = .ref a ∧ SqT X.K G a vs ∧ AVRs X.K G μ vs xs := by
        cases d with
        | fz d =>
          cases d <;> simp only [prts] at q <;> cases q
          cases r with
          | fz r => cases r with
            | tup q r => exact ⟨_, _, rfl, q, reps_fzs r⟩
        | tp ys =>
          simp only [prts] at q
          cases q
          cases r with
          | tp q r => exact ⟨_, _, rfl, q, r⟩
        | loc n => simp only [prts] at q; cases q
      obtain ⟨a, vs, rfl, q1, q2⟩ := key
      exact ⟨a, vs, rfl, sqT_keep t.sub q1, by rw [q2.length, hl], all_setX2 er q2 hl fun σ' e k1 k2 => c σ' e (fun j hj => k1 j hj) k2⟩
def tIfX (X : Cx) (P : Pg) (O : PgO) (ifs : List Expr) (tt : XE) : TT := match ifs with
  | [] => tYes
  | _ => tXT X P O (fun _ _ _ _ => False) tt
theorem noXO_ok {α β : Type} {R : Hp → List Addr → Hp → β → Prop} {r : RO α} {f : α → Hc → RO β} (q : EndR X W σ G μ R ((noXO r).bnd f)) : ∃ a h', r = .ok a h' ∧ EndR X W σ G μ R (f a h') := by
  cases r with
  | ok a h' => exact ⟨a, h', rfl, q⟩
  | exc _ _ _ => exact q.elim
  | bad => exact q.elim
/-- one turn -/
theorem lc_turn {own : List Nat} {tg : Tg} {tt elt : XE} {ifs : List Expr} {β : Type} {R : Hp → List Addr → Hp → β → Prop} {k : Option AV → Hc → RO β} {v : V} {d : AV} {Ct : VK} {Cf : Hp → Prop} (hin : tgIn own tg = true) (hif : ifs = [] → tt = .p (.bl true))
    (t : Ht X.K X.mg G μ h H) (er : EvR X.K G μ ρ σ) (r : AVR X.K G μ v d) (q : EndR X W σ G μ R ((noXO (match setX h tg d (unX own ρ) with
        | some ρ1 => (xv P O tt ρ1 h).bnd fun t h => (lft (truA h t) h).bnd fun r h => match r with
          | true => (xv P O elt ρ1 h).bnd fun y h => .ok (some y) h
          | false => .ok none h
        | none => .bad)).bnd k))
    (ct : ∀ y w h1 H1 G1 μ1, Le G μ G1 μ1 → Ht X.K X.mg G1 μ1 h1 H1 → AVR X.K G1 μ1 w y → EndR X W σ G1 μ1 R (k (some y) h1) → Ct w H1)
    (cf : ∀ h1 H1 G1 μ1, Le G μ G1 μ1 → Ht X.K X.mg G1 μ1 h1 H1 → EndR X W σ G1 μ1 R (k none h1) → Cf H1) :
    tG X.K tg v (wipe σ own) H fun σ2 H2 => wipe σ2 own = wipe σ own ∧ tIfX X P O ifs tt σ2 H2 fun b H3 => if b = true then tX X P O (fun _ _ _ _ => False) elt σ2 H3 Ct else Cf H3 := by
  obtain ⟨o, h', e0, q1⟩ := noXO_ok q
  cases qs : setX h tg d (unX own ρ) with
  | none => rw [qs] at e0; cases e0
  | some ρ1 =>
    rw [qs] at e0
    simp only at e0
    refine g_setX2 t (er.wipe own) r qs fun σ4 er4 k1 k2 => ⟨wipe_same (by rw [k2, wipe_length]) fun j hj => k1 j (tg_in hin hj), ?_⟩
    have body : ∀ (b : Bool) (h1 : Hc) (H1 G1 : Hp) (μ1 : List Addr), Le G μ G1 μ1 → Ht X.K X.mg G1 μ1 h1 H1 → EvR X.K G1 μ1 ρ1 σ4 → (match b with
          | true => (xv P O elt ρ1 h1).bnd fun y h => .ok (some y) h
          | false => .ok none h1) = (.ok o h' : RO (Option AV)) → if b = true then tX X P O (fun _ _ _ _ => False) elt σ4 H1 Ct else Cf H1 := fun b h1 H1 G1 μ1 l1 t1 er1 e1 => by
      cases b with
      | false =>
        rw [if_neg Bool.false_ne_true]
        simp only at e1
        cases e1
        exact cf _ _ _ _ l1 t1 (q1.on l1)
      | true =>
        rw [if_pos rfl]
        simp only at e1
        refine ⟨G1, μ1, h1, ρ1, t1, er1, ?_⟩
        cases qe : xv P O elt ρ1 h1 with
        | exc _ _ _ => rw [qe] at e1; cases e1
        | bad => rw [qe] at e1; cases e1
        | ok y h2 =>
          rw [qe] at e1
          simp only [bnd_ok] at e1
          cases e1
          exact fun H2 G2 μ2 l2 t2 w r2 => ct y w _ H2 G2 μ2 (l1.trans l2) t2 r2 (q1.on (l1.trans l2))
    match ifs, hif with
    | [], hif =>
      have e1 := hif rfl
      subst e1
      simp only [xv, ev, lft_ok, bnd_ok, truA, truD] at e0
      exact body true h H G μ (Le.refl _ _) t er4 e0
    | _ :: _, _ =>
      refine ⟨G, μ, h, ρ1, t, er4, ?_⟩
      unfold tstX
      cases qt : xv P O tt ρ1 h with
      | exc _ _ _ => rw [qt] at e0; cases e0
      | bad => rw [qt] at e0; cases e0
      | ok tv h1 =>
        rw [qt] at e0
        simp only [bnd_ok] at e0 ⊢
        cases qb : truA h1 tv with
        | exc _ _ => rw [qb] at e0; cases e0
        | bad => rw [qb] at e0; cases e0
        | ok b =>
          rw [qb] at e0
          simp only [lft_ok, bnd_ok] at e0
          exact fun H1 G1 μ1 l1 t1 => body b h1 H1 G1 μ1 l1 t1 (er4.mono l1) e0
abbrev lcF (P : Pg) (O : PgO) (own : List Nat) (tg : Tg) (tt elt : XE) (ρ : Ex) : AV → Hc → RO (Option AV) := fun x h => noXO (match setX h tg x (unX own ρ) with
        | some ρ1 => (xv P O tt ρ1 h).bnd fun t h => (lft (truA h t) h).bnd fun r h => match r with
          | true => (xv P O elt ρ1 h).bnd fun y h => .ok (some y) h
          | false => .ok none h
        | none => .bad)
theorem c_lcp {own : List Nat} {tg : Tg} {it : NW.It} {tt elt : XE} {ifs : List Expr} (hin : tgIn own tg = true) (hif : ifs = [] → tt = .p (.bl true)) (hno : isOwn it = false) (σ : L2.St) (H : Hp) (Q : VK) (hh : tX X P O W (.lc own tg (.p it) tt elt) σ H Q) :
    tLc (tI X P W it) (tG X.K tg) (tIfX X P O ifs tt) (tX X P O (fun _ _ _ _ => False) elt) ((own.map fun i => (X.N.getD i "", i)).map (·.2)) σ H Q := by
  obtain ⟨G, μ, h, ρ, t, er, q⟩ := hh
  have eown : (own.map fun i => (X.N.getD i "", i)).map (·.2) = own := by
    rw [List.map_map]
    exact List.map_id' own
  rw [eown]
  simp only [xv] at q
  refine ⟨G, G, prE h ρ, er.er t, ?_⟩
  have hB : bI it G H = G := by cases it <;> first | rfl | cases hno
  rw [hB]
  cases qi : evI P it (prE h ρ) with
  | exc c z => rw [qi] at q; exact fun cls dx H' G' w r => q cls dx H' G' μ ⟨w.stl, List.prefix_refl μ⟩ (t.ext w) r
  | bad => rw [qi] at q; exact q
  | ok xs =>
    rw [qi] at q
    simp only [lft_ok, bnd_ok] at q
    split at q
    case isFalse => exact q.elim
    intro J H1 G1 w1 Y D nD
    have t1 := t.ext w1
    have l1 : Le G μ G1 μ := ⟨w1.stl, List.prefix_refl μ⟩
    have t2 := t1.new (c := .lst []) (o := .lst []) nD ⟨[], rfl, .nil⟩
    have l2 : Le G1 μ G1 (μ ++ [D]) := Le.new G1 μ D
    have eD : (μ ++ [D])[h.length]? = some D := t1.last
    refine ⟨fun i m H' => m = xs.length - i ∧ i ≤ xs.length ∧ ∃ G' μ' h', Le G1 (μ ++ [D]) G' μ' ∧ Ht X.K X.mg G' μ' h' H' ∧ EndR X W σ G' μ' (RV X Q) (lcD h.length (lcF P O own tg tt elt ρ) ((xs.drop i).map .fz) h'),
      ⟨xs.length, by simp, Nat.zero_le _, G1, μ ++ [D], _, Le.refl _ _, t2, q.on (l1.trans l2)⟩, ?_⟩
    rintro i m H2 ⟨rfl, hi, G2, μ2, h2, l3, t3, q2⟩
    have lx := (l1.trans l2).trans l3
    have er2 := er.mono lx
    have sB : Same G H2 := lx.1.trans t3.sub
    by_cases hlt : i < xs.length
    · refine .inr ⟨Y.go i H2 G2 hlt sB l3.1 t3.sub, fun H' => i + 1 ≤ xs.length ∧ ∃ G' μ' h', Le G1 (μ ++ [D]) G' μ' ∧ Ht X.K X.mg G' μ' h' H' ∧ EndR X W σ G' μ' (RV X Q) (lcD h.length (lcF P O own tg tt elt ρ) ((xs.drop (i + 1)).map .fz) h'),
        fun H' h => ⟨xs.length - (i + 1), by omega, rfl, h.1, h.2⟩, fun v H3 y => ?_⟩
      obtain ⟨d, G3, hd, w3, rd⟩ := Y.yld i H2 G2 v H3 hlt sB l3.1 t3.sub y
      have edrop : xs.drop i = d :: xs.drop (i + 1) := by
        rw [List.drop_eq_getElem_cons hlt]
        have := (List.getElem?_eq_some_iff.mp hd).2
        rw [this]
      rw [edrop] at q2
      simp only [List.map_cons, lcD] at q2
      have l4 : Le G2 μ2 G3 μ2 := ⟨w3.stl, List.prefix_refl μ2⟩
      refine lc_turn hin hif (t3.ext w3) (er2.mono l4) (.fz rd) (q2.on l4) (fun y w h5 H5 G5 μ5 l5 t5 r5 q5 => ?_) (fun h5 H5 G5 μ5 l5 t5 q5 => ?_)
      · have lz := (l3.trans l4).trans l5
        cases e5 : h5[h.length]? with
        | none => rw [e5] at q5; exact q5.elim
        | some c =>
          cases c with
          | lst acc =>
            rw [e5] at q5
            simp only at q5
            split at q5
            · rename_i hz
              obtain ⟨p, vs, ep, f2, f3, f4, f5⟩ := t5.lst (v := .ref D) e5 (.loc (pre_get lz.2 eD))
              cases ep
              exact ⟨vs, f4, lt_line (by rw [f5.length]; exact hz), hlt, G5, μ5, _, lz, t5.set (c' := .lst (acc ++ [y])) e5 (by simp) f2 ⟨_, rfl, f5.append (.cons r5 .nil)⟩, q5⟩
            · exact q5.elim
          | _ => rw [e5] at q5; exact q5.elim
      · have lz := (l3.trans l4).trans l5
        cases e5 : h5[h.length]? with
        | none => rw [e5] at q5; exact q5.elim
        | some c =>
          cases c with
          | lst acc =>
            rw [e5] at q5
            exact ⟨hlt, G5, μ5, h5, lz, t5, q5⟩
          | _ => rw [e5] at q5; exact q5.elim
    · have e : i = xs.length := by omega
      subst e
      rw [List.drop_length] at q2
      simp only [List.map_nil, lcD] at q2
      exact .inl ⟨Y.stop H2 G2 sB l3.1 t3.sub, q2.fin t3 _ (.loc (pre_get l3.2 eD))⟩
theorem c_lcx {own : List Nat} {tg : Tg} {e : XE} {tt elt : XE} {ifs : List Expr} (hin : tgIn own tg = true) (hif : ifs = [] → tt = .p (.bl true)) (σ : L2.St) (H : Hp) (Q : VK) (hh : tX X P O W (.lc own tg (.x e) tt elt) σ H Q) :
    tLc (iList X.K (tX X P O W e)) (tG X.K tg) (tIfX X P O ifs tt) (tX X P O (fun _ _ _ _ => False) elt) ((own.map fun i => (X.N.getD i "", i)).map (·.2)) σ H Q := by
  obtain ⟨G, μ, h, ρ, t, er, q⟩ := hh
  have eown : (own.map fun i => (X.N.getD i "", i)).map (·.2) = own := by
    rw [List.map_map]
    exact List.map_id' own
  rw [eown]
  simp only [xv] at q
  refine bndX t er q fun d v h1 H1 G1 μ1 l1 t1 er1 r1 q1 => ?_
  cases d with
  | loc k =>
    simp only at q1
    cases r1 with
    | loc e1 =>
      rename_i p
      have key : ∀ {c i : Nat} {h' : Hc} {H' G' : Hp} {μ' : List Addr}, μ'[k]? = some p → Ht X.K X.mg G' μ' h' H' → EndR X W σ G' μ' (RV X Q) (lcV k h1.length (lcF P O own tg tt elt ρ) c i h') → ∃ xs vs c', c = c' + 1 ∧ h'[k]? = some (.lst xs) ∧ H' p = some (.lst vs) ∧ AVRs X.K G' μ' vs xs := fun {c i h' H' G' μ'} e t q => by
        cases c with
        | zero => exact q.elim
        | succ c =>
          simp only [lcV] at q
          cases hh : h'[k]? with
          | none => rw [hh] at q; exact q.elim
          | some cc =>
            cases cc with
            | lst xs =>
              obtain ⟨a', vs, ea, e2, e3, e4, e5⟩ := t.lst (v := .ref p) hh (.loc e)
              cases ea
              exact ⟨xs, vs, c, rfl, rfl, e4, e5⟩
            | _ => rw [hh] at q; exact q.elim
      have hk1 : k < h1.length := by rw [← t1.len]; exact (List.getElem?_eq_some_iff.mp e1).1
      have first : ∃ xs, h1[k]? = some (.lst xs) := by
        have q' := q1
        cases hb : bigN with
        | zero => rw [hb] at q'; exact q'.elim
        | succ c =>
          rw [hb] at q'
          simp only [lcV] at q'
          rw [List.getElem?_append_left hk1] at q'
          cases hh : h1[k]? with
          | none => rw [hh] at q'; exact q'.elim
          | some cc =>
            cases cc with
            | lst xs => exact ⟨xs, rfl⟩
            | _ => rw [hh] at q'; exact q'.elim
      obtain ⟨xs0, hx0⟩ := first
      obtain ⟨a0, vs0, ea0, _, _, e40, _⟩ := t1.lst (v := .ref p) hx0 (.loc e1)
      cases ea0
      refine ⟨p, rfl, ⟨vs0, SqL.of e40⟩, fun D nD => ?_⟩
      have t2 := t1.new (c := .lst []) (o := .lst []) nD ⟨[], rfl, .nil⟩
      have l2 : Le G1 μ1 G1 (μ1 ++ [D]) := Le.new G1 μ1 D
      have eD : (μ1 ++ [D])[h1.length]? = some D := t1.last
      have eP : (μ1 ++ [D])[k]? = some p := pre_get l2.2 e1
      refine ⟨fun i c H' => ∃ G' μ' h', Le G1 (μ1 ++ [D]) G' μ' ∧ Ht X.K X.mg G' μ' h' H' ∧ EndR X W σ G' μ' (RV X Q) (lcV k h1.length (lcF P O own tg tt elt ρ) c i h'),
        ⟨bigN, G1, μ1 ++ [D], _, Le.refl _ _, t2, q1.on l2⟩, ?_⟩
      rintro i c H2 ⟨G2, μ2, h2, l3, t3, q2⟩
      obtain ⟨xs, vs, c', rfl, hh, e4, e5⟩ := key (pre_get l3.2 eP) t3 q2
      simp only [lcV, hh] at q2
      have er2 := (er1.mono l2).mono l3
      cases hx : xs[i]? with
      | none =>
        rw [hx] at q2
        refine .inl ⟨⟨vs, SqL.of e4, ?_⟩, q2.fin t3 _ (.loc (pre_get l3.2 eD))⟩
        rw [e5.length]
        exact List.getElem?_eq_none_iff.mp hx
      | some u =>
        rw [hx] at q2
        simp only at q2
        obtain ⟨w, e6, e7⟩ := e5.get hx
        refine .inr ⟨⟨vs, w, SqL.of e4, e6⟩, fun H' => ∃ c'', c'' < c' + 1 ∧ ∃ G' μ' h', Le G1 (μ1 ++ [D]) G' μ' ∧ Ht X.K X.mg G' μ' h' H' ∧ EndR X W σ G' μ' (RV X Q) (lcV k h1.length (lcF P O own tg tt elt ρ) c'' (i + 1) h'), fun H' h => h, fun w' H3 y => ?_⟩
        obtain ⟨rfl, y⟩ := y
        have ew := y vs (SqL.of e4)
        rw [e6] at ew
        cases ew
        refine lc_turn hin hif t3 er2 e7 q2 (fun y w h5 H5 G5 μ5 l5 t5 r5 q5 => ?_) (fun h5 H5 G5 μ5 l5 t5 q5 => ?_)
        · have lz := l3.trans l5
          cases e5 : h5[h1.length]? with
          | none => rw [e5] at q5; exact q5.elim
          | some c =>
            cases c with
            | lst acc =>
              rw [e5] at q5
              simp only at q5
              split at q5
              · rename_i hz
                obtain ⟨p', vs', ep, f2, f3, f4, f5⟩ := t5.lst (v := .ref D) e5 (.loc (pre_get lz.2 eD))
                cases ep
                exact ⟨vs', f4, lt_line (by rw [f5.length]; exact hz), c', Nat.lt_succ_self _, G5, μ5, _, lz, t5.set (c' := .lst (acc ++ [y])) e5 (by simp) f2 ⟨_, rfl, f5.append (.cons r5 .nil)⟩, q5⟩
              · exact q5.elim
            | _ => rw [e5] at q5; exact q5.elim
        · have lz := l3.trans l5
          cases e5 : h5[h1.length]? with
          | none => rw [e5] at q5; exact q5.elim
          | some c =>
            cases c with
            | lst acc =>
              rw [e5] at q5
              exact ⟨c', Nat.lt_succ_self _, G5, μ5, h5, lz, t5, q5⟩
            | _ => rw [e5] at q5; exact q5.elim
  | _ => exact q1.elim
theorem GdO.blk (g : GdO X T P S O n m W) (s : Shared) (H : Hp) (scope : Scope) (cenv : Env) (fp : List Addr) : GdO (X.blk s H scope cenv fp) T P S O n m (fun _ _ _ _ => False) := ⟨g.gd.blk s H scope cenv fp, g.ofn, g.fld⟩
end
end NW
end

section
set_option maxHeartbeats 8000000
/-! The look over cells, and that what passes it holds. -/
namespace NW
open PySem PySem.Spec PyProof.Rows L2

def ptI : It → Bool
  | .own _ => false
  | .lent _ => false
  | _ => true
def tyesX : XE → Bool
  | .p e => tyes e
  | _ => false
def isIfX : XE → Bool
  | .ife _ _ _ => true
  | .p e => isIfe e
  | _ => false
def nmM0 : MO0 → Str
  | .clear => "clear"
  | .pop => "pop"
def nmM1 : MO1 → Str
  | .append => "append"
  | .extend => "extend"
  | .dpop => "pop"
mutual
def okV (T : Tx) (S : List SigO) (n m : Nat) (N : List Str) (sc : Scope) : XE → Expr → Bool
  | .p e, x => okE T n N sc e x && (kd T e != 1)
  | .t e, x => okE T n N sc e x && (kd T e == 2) && tstE x
  | .v i, .Name x _ => decide (N[i]? = some x) && visB sc x && okN x
  | .tup es, .Tuple xs _ _ => okVs T S n m N sc es xs
  | .lst es, .List xs _ => okVs T S n m N sc es xs
  | .lsz es, .List xs _ => okVs T S n m N sc es xs
  | .dc0, .Dict [] [] _ => true
  | .dc1 k e, .Dict [some x] [y] _ => okV T S n m N sc k x && okV T S n m N sc e y
  | .ix a i, .Subscript x y _ => plainE y && okV T S n m N sc a x && okV T S n m N sc i y
  | .dix a i, .Subscript x y _ => plainE y && okV T S n m N sc a x && okV T S n m N sc i y
  | .bin o a b, .BinOp x op y _ => decide (op = opB o) && okV T S n m N sc a x && okV T S n m N sc b y
  | .cmp o a b, .Compare x [op] [y] _ => decide (op = opC o) && plainE y && okV T S n m N sc a x && okV T S n m N sc b y
  | .din neg a b, .Compare x [op] [y] _ => decide (op = if neg then .NotIn else .In) && plainE y && okV T S n m N sc a x && okV T S n m N sc b y
  | .not a, .UnaryOp .Not x _ => !isIfX a && okV T S n m N sc a x
  | .and a b, .BoolOp .And (x :: y :: r) pos => !isIfX a && !isIfX b && okV T S n m N sc a x && (match r with
    | [] => okV T S n m N sc b y
    | r => okV T S n m N sc b (.BoolOp .And (y :: r) pos))
  | .or a b, .BoolOp .Or (x :: y :: r) pos => !isIfX a && !isIfX b && okV T S n m N sc a x && (match r with
    | [] => okV T S n m N sc b y
    | r => okV T S n m N sc b (.BoolOp .Or (y :: r) pos))
  | .ife c a b, .IfExp z x y _ => !isIfX c && okV T S n m N sc c z && okV T S n m N sc a x && okV T S n m N sc b y
  | .cal k es, .Call (.Name x _) (y :: ys) [] _ => (match S[k]? with
    | some sg => decide (sg.nm = x) && decide (k < m) && glB sc x && okN x && decide (sg.cls = none) && (!T.cl || sg.cl) && decide (sg.ar = (y :: ys).length) && okVs T S n m N sc es (y :: ys)
    | none => false)
  | .calf k ws es, .Call (.Name x _) (y :: ys) [] _ => (match T.fns[k]? with
    | some sg => decide (sg.nm = x) && decide (k < n) && glB sc x && okN x && decide (sg.ln.length = (y :: ys).length) && decide (sg.kw = none) && (!T.cl || sg.cl) && decide (ws = sg.ln) && (sg.fr != 1) && okVs T S n m N sc es (y :: ys)
    | none => false)
  | .cald k es, .Call (.Name x _) (y :: ys) [] _ => (match T.fns[k]? with
    | some sg => decide (sg.nm = x) && decide (k < n) && glB sc x && okN x && decide (sg.ln.length = (y :: ys).length) && decide (sg.kw = none) && (!T.cl || sg.cl) && (sg.fr != 1) && okVs T S n m N sc es (y :: ys)
    | none => false)
  | .calt k es, .Call (.Name x _) (y :: ys) [] _ => (match T.fns[k]? with
    | some sg => decide (sg.nm = x) && decide (k < n) && glB sc x && okN x && decide (sg.ln.length = (y :: ys).length) && decide (sg.kw = none) && (!T.cl || sg.cl) && decide (sg.fr = 3) && okVs T S n m N sc es (y :: ys)
    | none => false)
  | .bi f es, .Call (.Name x _) (y :: ys) [] _ => decide (nmB f = x) && glB sc x && okN x && okVs T S n m N sc es (y :: ys)
  | .len a, .Call (.Name x _) [y] [] _ => decide (x = ("len" : Str)) && glB sc x && plainE y && okV T S n m N sc a y
  | .isi t e, .Call (.Name f _) [x, .Name y _] [] _ => decide (f = ("isinstance" : Str)) && decide (y = PySem.Str.ofString (nmT t)) && glB sc f && glB sc y && okN y && plainE x && okV T S n m N sc e x
  | .m0 mm o, .Call (.Attribute x f apos) [] [] pos => decide (f = nmM0 mm) && baseE x && (apos.endLine == pos.line) && okV T S n m N sc o x
  | .m1 mm o a, .Call (.Attribute x f apos) [y] [] pos => decide (f = nmM1 mm) && baseE x && plainE y && (apos.endLine == pos.line) && okV T S n m N sc o x && okV T S n m N sc a y
  | .m2 .setdefault o k e, .Call (.Attribute x f apos) [y, z] [] pos => decide (f = ("setdefault" : Str)) && baseE x && plainE y && plainE z && (apos.endLine == pos.line) && okV T S n m N sc o x && okV T S n m N sc k y && okV T S n m N sc e z
  | .dget o k e, .Call (.Attribute x f apos) [y, z] [] pos => decide (f = ("get" : Str)) && baseE x && plainE y && plainE z && (apos.endLine == pos.line) && okV T S n m N sc o x && okV T S n m N sc k y && okV T S n m N sc e z
  | .frz a, x => okV T S n m N sc a x && tstE x
  | .lc own tg it tt elt, .ListComp x [⟨g, y, ifs, asy⟩] scope _ => decide (asy = 0) && blkC N sc scope (own.map fun i => (N.getD i "", i)) && tgIn own tg && plainE y &&
      (match it with
      | .p it => ptI it && okI T n N sc it y
      | .x e => okV T S n m N sc e y) && okG N (relS scope sc) tg g &&
      (match ifs with
      | [] => tyesX tt
      | [c] => !isIfX tt && okV T S n m N (relS scope sc) tt c
      | _ => false) && okV T S n m N (relS scope sc) elt x
  | _, _ => false
def okVs (T : Tx) (S : List SigO) (n m : Nat) (N : List Str) (sc : Scope) : XEs → List Expr → Bool
  | .nil, [] => true
  | .cons e r, x :: xs => plainE x && okV T S n m N sc e x && okVs T S n m N sc r xs
  | _, _ => false
end
section
variable {T : Tx} {P : Pg} {S : List SigO} {O : PgO} {n m : Nat}
theorem okVs_plain {N : List Str} {sc : Scope} : ∀ {es : XEs} {xs : List Expr}, okVs T S n m N sc es xs = true → plains xs = true
  | .nil, [], _ => rfl
  | .nil, _ :: _, h => by simp [okVs] at h
  | .cons e r, [], h => by simp [okVs] at h
  | .cons e r, x :: xs, h => by
    simp only [okVs, Bool.and_eq_true] at h
    show (plainE x && xs.all plainE) = true
    rw [h.1.1, Bool.true_and]
    exact okVs_plain (es := r) h.2
theorem okVs_len {N : List Str} {sc : Scope} : ∀ {es : XEs} {xs : List Expr}, okVs T S n m N sc es xs = true → lenXs es = xs.length
  | .nil, [], _ => rfl
  | .nil, _ :: _, h => by simp [okVs] at h
  | .cons e r, [], h => by simp [okVs] at h
  | .cons e r, x :: xs, h => by
    simp only [okVs, Bool.and_eq_true] at h
    simp [lenXs, okVs_len h.2]
structure SndX (X : Cx) (P : Pg) (O : PgO) (W : WX) (e : XE) (x : Expr) : Prop where
  pe : PE X x (tX X P O W e)
  pt : isIfX e = false → PT X x (tXT X P O W e)
  pw : ∀ op vs pos, x = .BoolOp op vs pos → PW X x (tXT X P O W e)
theorem SndX.plain {X : Cx} {W : WX} {e : XE} {x : Expr} (ht : tstE x = true) (h : PE X x (tX X P O W e)) : SndX X P O W e x :=
  ⟨h, fun _ => x_tst ht h, fun op vs pos z => by subst z; simp [tstE] at ht⟩
mutual
theorem snd_X : ∀ (e : XE) (X : Cx) (W : WX) (x : Expr), GdO X T P S O n m W → okV T S n m X.N X.env.scope e x = true → SndX X P O W e x
  | .p e, X, W, x, g, h => by
    simp only [okV, Bool.and_eq_true, bne_iff_ne] at h
    have s := snd_E (P := P) e X W x g.gd h.1
    exact ⟨x_p (stillE h.2 s.pe), fun hi => x_pT (s.pt hi), fun op vs pos z => x_pW (s.pw op vs pos z)⟩
  | .t e, X, W, x, g, h => by
    simp only [okV, Bool.and_eq_true, beq_iff_eq] at h
    have s := (snd_E (P := P) e X W x g.gd h.1.1).pe
    rw [h.1.2] at s
    exact .plain h.2 (x_t s)
  | .v i, X, W, x, g, h => by
    cases x with
    | Name nm pos =>
      simp only [okV, Bool.and_eq_true, decide_eq_true_eq] at h
      exact .plain rfl (x_v h.1.1 h.1.2 h.2)
    | _ => simp [okV] at h
  | .tup es, X, W, x, g, h => by
    cases x with
    | Tuple xs k pos => simp only [okV] at h; exact .plain rfl (x_tup (snd_Xs es X W xs g h))
    | _ => simp [okV] at h
  | .lst es, X, W, x, g, h => by
    cases x with
    | List xs pos => simp only [okV] at h; exact .plain rfl (x_lst (snd_Xs es X W xs g h))
    | _ => simp [okV] at h
  | .lsz es, X, W, x, g, h => by
    cases x with
    | List xs pos => simp only [okV] at h; exact .plain rfl (x_lsz (snd_Xs es X W xs g h))
    | _ => simp [okV] at h
  | .dc0, X, W, x, g, h => by
    cases x with
    | Dict ks vs pos =>
      match ks, vs, h with
      | [], [], h => exact .plain rfl x_dc0
      | [], _ :: _, h => simp [okV] at h
      | _ :: _, _, h => simp [okV] at h
    | _ => simp [okV] at h
  | .dc1 a b, X, W, x, g, h => by
    cases x with
    | Dict ks vs pos =>
      match ks, vs, h with
      | [some y], [z], h =>
        simp only [okV, Bool.and_eq_true] at h
        exact .plain rfl (x_dc1 (snd_X a X W _ g h.1).pe (snd_X b X W _ g h.2).pe)
      | [], _, h => simp [okV] at h
      | [none], _, h => simp [okV] at h
      | [some _], [], h => simp [okV] at h
      | [some _], _ :: _ :: _, h => simp [okV] at h
      | _ :: _ :: _, _, h => simp [okV] at h
    | _ => simp [okV] at h
  | .ix a b, X, W, x, g, h => by
    cases x with
    | Subscript p q pos =>
      simp only [okV, Bool.and_eq_true] at h
      exact .plain rfl (x_ix h.1.1 (snd_X a X W _ g h.1.2).pe (snd_X b X W _ g h.2).pe)
    | _ => simp [okV] at h
  | .dix a b, X, W, x, g, h => by
    cases x with
    | Subscript p q pos =>
      simp only [okV, Bool.and_eq_true] at h
      exact .plain rfl (x_dix g.gd.room h.1.1 (snd_X a X W _ g h.1.2).pe (snd_X b X W _ g h.2).pe)
    | _ => simp [okV] at h
  | .bin o a b, X, W, x, g, h => by
    cases x with
    | BinOp p op q pos =>
      simp only [okV, Bool.and_eq_true, decide_eq_true_eq] at h
      obtain ⟨⟨rfl, ha⟩, hb⟩ := h
      exact .plain rfl (x_bin (snd_X a X W _ g ha).pe (snd_X b X W _ g hb).pe)
    | _ => simp [okV] at h
  | .cmp o a b, X, W, x, g, h => by
    cases x with
    | Compare p ops qs pos =>
      match ops, qs, h with
      | [op], [q], h =>
        simp only [okV, Bool.and_eq_true, decide_eq_true_eq] at h
        obtain ⟨⟨⟨rfl, hp⟩, ha⟩, hb⟩ := h
        exact ⟨x_cmp g.gd.room hp (snd_X a X W _ g ha).pe (snd_X b X W _ g hb).pe, fun _ => x_cmpT g.gd.room hp (snd_X a X W _ g ha).pe (snd_X b X W _ g hb).pe, fun _ _ _ e => by cases e⟩
      | [], _, h => simp [okV] at h
      | _ :: _ :: _, _, h => simp [okV] at h
      | [_], [], h => simp [okV] at h
      | [_], _ :: _ :: _, h => simp [okV] at h
    | _ => simp [okV] at h
  | .din neg a b, X, W, x, g, h => by
    cases x with
    | Compare p ops qs pos =>
      match ops, qs, h with
      | [op], [q], h =>
        simp only [okV, Bool.and_eq_true, decide_eq_true_eq] at h
        obtain ⟨⟨⟨rfl, hp⟩, ha⟩, hb⟩ := h
        exact ⟨x_din g.gd.room hp (snd_X a X W _ g ha).pe (snd_X b X W _ g hb).pe, fun _ => x_dinT g.gd.room hp (snd_X a X W _ g ha).pe (snd_X b X W _ g hb).pe, fun _ _ _ e => by cases e⟩
      | [], _, h => simp [okV] at h
      | _ :: _ :: _, _, h => simp [okV] at h
      | [_], [], h => simp [okV] at h
      | [_], _ :: _ :: _, h => simp [okV] at h
    | _ => simp [okV] at h
  | .not a, X, W, x, g, h => by
    cases x with
    | UnaryOp op p pos =>
      cases op with
      | Not =>
        simp only [okV, Bool.and_eq_true, Bool.not_eq_true'] at h
        have A := snd_X a X W p g h.2
        exact ⟨x_not A.pe, fun _ => x_notT (A.pt h.1), fun _ _ _ e => by cases e⟩
      | _ => simp [okV] at h
    | _ => simp [okV] at h
  | .and a b, X, W, x, g, h => by
    cases x with
    | BoolOp op vs pos =>
      match op, vs, h with
      | .And, p :: q :: r, h =>
        simp only [okV, Bool.and_eq_true, Bool.not_eq_true'] at h
        obtain ⟨⟨⟨i1, i2⟩, ha⟩, hb⟩ := h
        have A := snd_X a X W p g ha
        have PW' : PE X (.BoolOp .And (q :: r) pos) (tX X P O W b) ∧ PW X (.BoolOp .And (q :: r) pos) (tXT X P O W b) := by
          match r, hb with
          | [], hb =>
            have Bb := snd_X b X W q g hb
            exact ⟨pe_one Bb.pe, pw_and1 (Bb.pt i2)⟩
          | s :: r, hb =>
            have Bb := snd_X b X W _ g hb
            exact ⟨Bb.pe, Bb.pw _ _ _ rfl⟩
        have w := xw_and (A.pt i1) PW'.2
        exact ⟨x_and A.pe PW'.1, fun _ => w.pt, fun _ _ _ e => by cases e; exact w⟩
      | .Or, _, h => simp [okV] at h
      | .And, [], h => simp [okV] at h
      | .And, [_], h => simp [okV] at h
    | _ => simp [okV] at h
  | .or a b, X, W, x, g, h => by
    cases x with
    | BoolOp op vs pos =>
      match op, vs, h with
      | .Or, p :: q :: r, h =>
        simp only [okV, Bool.and_eq_true, Bool.not_eq_true'] at h
        obtain ⟨⟨⟨i1, i2⟩, ha⟩, hb⟩ := h
        have A := snd_X a X W p g ha
        have PW' : PE X (.BoolOp .Or (q :: r) pos) (tX X P O W b) ∧ PW X (.BoolOp .Or (q :: r) pos) (tXT X P O W b) := by
          match r, hb with
          | [], hb =>
            have Bb := snd_X b X W q g hb
            exact ⟨pe_one Bb.pe, pw_or1 (Bb.pt i2)⟩
          | s :: r, hb =>
            have Bb := snd_X b X W _ g hb
            exact ⟨Bb.pe, Bb.pw _ _ _ rfl⟩
        have w := xw_or (A.pt i1) PW'.2
        exact ⟨x_or A.pe PW'.1, fun _ => w.pt, fun _ _ _ e => by cases e; exact w⟩
      | .And, _, h => simp [okV] at h
      | .Or, [], h => simp [okV] at h
      | .Or, [_], h => simp [okV] at h
    | _ => simp [okV] at h
  | .ife c a b, X, W, x, g, h => by
    cases x with
    | IfExp t p q pos =>
      simp only [okV, Bool.and_eq_true, Bool.not_eq_true'] at h
      obtain ⟨⟨⟨i1, hc⟩, ha⟩, hb⟩ := h
      exact ⟨x_ife ((snd_X c X W t g hc).pt i1) (snd_X a X W p g ha).pe (snd_X b X W q g hb).pe, fun z => by simp [isIfX] at z, fun _ _ _ e => by cases e⟩
    | _ => simp [okV] at h
  | .cal k es, X, W, x, g, h => by
    cases x with
    | Call f as kws pos =>
      cases f with
      | Name nm np =>
        match as, kws, h with
        | y :: ys, [], h =>
          simp only [okV] at h
          cases hs : S[k]? with
          | none => rw [hs] at h; cases h
          | some sg =>
            rw [hs] at h
            simp only [Bool.and_eq_true, decide_eq_true_eq] at h
            obtain ⟨⟨⟨⟨⟨⟨⟨h1, h2⟩, h3⟩, h4⟩, h5⟩, h6⟩, h7⟩, h8⟩ := h
            exact .plain rfl (x_cal g hs h1 h2 h3 h4 h5 h6 h7 (okVs_len h8) (okVs_plain h8) (snd_Xs es X W _ g h8))
        | [], _, h => simp [okV] at h
        | _ :: _, _ :: _, h => simp [okV] at h
      | _ => simp [okV] at h
    | _ => simp [okV] at h
  | .calf k ws es, X, W, x, g, h => by
    cases x with
    | Call f as kws pos =>
      cases f with
      | Name nm np =>
        match as, kws, h with
        | y :: ys, [], h =>
          simp only [okV] at h
          cases hs : T.fns[k]? with
          | none => rw [hs] at h; cases h
          | some sg =>
            rw [hs] at h
            simp only [Bool.and_eq_true, decide_eq_true_eq, bne_iff_ne] at h
            obtain ⟨⟨⟨⟨⟨⟨⟨⟨⟨h1, h2⟩, h3⟩, h4⟩, h5⟩, h6⟩, h7⟩, h8⟩, h9⟩, h10⟩ := h
            exact .plain rfl (x_calf g hs h1 h2 h3 h4 h6 h7 h8 h9 h5 (okVs_len h10) (okVs_plain h10) (snd_Xs es X W _ g h10))
        | [], _, h => simp [okV] at h
        | _ :: _, _ :: _, h => simp [okV] at h
      | _ => simp [okV] at h
    | _ => simp [okV] at h
  | .cald k es, X, W, x, g, h => by
    cases x with
    | Call f as kws pos =>
      cases f with
      | Name nm np =>
        match as, kws, h with
        | y :: ys, [], h =>
          simp only [okV] at h
          cases hs : T.fns[k]? with
          | none => rw [hs] at h; cases h
          | some sg =>
            rw [hs] at h
            simp only [Bool.and_eq_true, decide_eq_true_eq, bne_iff_ne] at h
            obtain ⟨⟨⟨⟨⟨⟨⟨⟨h1, h2⟩, h3⟩, h4⟩, h5⟩, h6⟩, h7⟩, h9⟩, h10⟩ := h
            exact .plain rfl (x_cald g hs h1 h2 h3 h4 h6 h7 h9 h5 (okVs_len h10) (okVs_plain h10) (snd_Xs es X W _ g h10))
        | [], _, h => simp [okV] at h
        | _ :: _, _ :: _, h => simp [okV] at h
      | _ => simp [okV] at h
    | _ => simp [okV] at h
  | .calt k es, X, W, x, g, h => by
    cases x with
    | Call f as kws pos =>
      cases f with
      | Name nm np =>
        match as, kws, h with
        | y :: ys, [], h =>
          simp only [okV] at h
          cases hs : T.fns[k]? with
          | none => rw [hs] at h; cases h
          | some sg =>
            rw [hs] at h
            simp only [Bool.and_eq_true, decide_eq_true_eq] at h
            obtain ⟨⟨⟨⟨⟨⟨⟨⟨h1, h2⟩, h3⟩, h4⟩, h5⟩, h6⟩, h7⟩, h9⟩, h10⟩ := h
            exact .plain rfl (x_calt g hs h1 h2 h3 h4 h6 h7 h9 h5 (okVs_len h10) (okVs_plain h10) (snd_Xs es X W _ g h10))
        | [], _, h => simp [okV] at h
        | _ :: _, _ :: _, h => simp [okV] at h
      | _ => simp [okV] at h
    | _ => simp [okV] at h
  | .bi f es, X, W, x, g, h => by
    cases x with
    | Call fn as kws pos =>
      cases fn with
      | Name nm np =>
        match as, kws, h with
        | y :: ys, [], h =>
          simp only [okV, Bool.and_eq_true, decide_eq_true_eq] at h
          obtain ⟨⟨⟨rfl, h2⟩, h3⟩, h4⟩ := h
          exact .plain rfl (x_bi g h2 h3 (okVs_plain h4) (snd_Xs es X W _ g h4))
        | [], _, h => simp [okV] at h
        | _ :: _, _ :: _, h => simp [okV] at h
      | _ => simp [okV] at h
    | _ => simp [okV] at h
  | .len a, X, W, x, g, h => by
    cases x with
    | Call fn as kws pos =>
      cases fn with
      | Name nm np =>
        match as, kws, h with
        | [y], [], h =>
          simp only [okV, Bool.and_eq_true, decide_eq_true_eq] at h
          obtain ⟨⟨⟨rfl, h2⟩, h3⟩, h4⟩ := h
          exact .plain rfl (x_len g h2 h3 (snd_X a X W _ g h4).pe)
        | [], _, h => simp [okV] at h
        | _ :: _ :: _, _, h => simp [okV] at h
        | [_], _ :: _, h => simp [okV] at h
      | _ => simp [okV] at h
    | _ => simp [okV] at h
  | .isi t a, X, W, x, g, h => by
    cases x with
    | Call fn as kws pos =>
      cases fn with
      | Name nm np =>
        match as, kws, h with
        | [p, q], [], h =>
          cases q with
          | Name nm2 np2 =>
            simp only [okV, Bool.and_eq_true, decide_eq_true_eq] at h
            obtain ⟨⟨⟨⟨⟨⟨h1, h2⟩, h3⟩, h4⟩, h5⟩, h6⟩, h7⟩ := h
            exact .plain rfl (x_isi g h1 h2 h3 h4 h5 h6 (snd_X a X W _ g h7).pe)
          | _ => simp [okV] at h
        | [], _, h => simp [okV] at h
        | [_], _, h => simp [okV] at h
        | _ :: _ :: _ :: _, _, h => simp [okV] at h
        | [_, _], _ :: _, h => simp [okV] at h
      | _ => simp [okV] at h
    | _ => simp [okV] at h
  | .m0 mm a, X, W, x, g, h => by
    cases x with
    | Call f as kws pos =>
      cases f with
      | Attribute y nm apos =>
        match as, kws, h with
        | [], [], h =>
          simp only [okV, Bool.and_eq_true, decide_eq_true_eq] at h
          obtain ⟨⟨⟨rfl, h1⟩, h2⟩, h3⟩ := h
          exact .plain rfl (x_m0 (by cases mm <;> rfl) h1 h2 (snd_X a X W _ g h3).pe)
        | _ :: _, _, h => simp [okV] at h
        | [], _ :: _, h => simp [okV] at h
      | _ => simp [okV] at h
    | _ => simp [okV] at h
  | .m1 mm a b, X, W, x, g, h => by
    cases x with
    | Call f as kws pos =>
      cases f with
      | Attribute y nm apos =>
        match as, kws, h with
        | [u], [], h =>
          simp only [okV, Bool.and_eq_true, decide_eq_true_eq] at h
          obtain ⟨⟨⟨⟨⟨rfl, h1⟩, h2⟩, h3⟩, h4⟩, h5⟩ := h
          have A := (snd_X a X W _ g h4).pe
          have B := (snd_X b X W _ g h5).pe
          cases mm with
          | append => exact .plain rfl (x_append h1 h2 h3 A B)
          | extend => exact .plain rfl (x_extend h1 h2 h3 A B)
          | dpop => exact .plain rfl (x_dpop h1 h2 h3 A B)
        | [], _, h => simp [okV] at h
        | _ :: _ :: _, _, h => simp [okV] at h
        | [_], _ :: _, h => simp [okV] at h
      | _ => simp [okV] at h
    | _ => simp [okV] at h
  | .m2 mm a b c, X, W, x, g, h => by
    cases mm
    cases x with
    | Call f as kws pos =>
      cases f with
      | Attribute y nm apos =>
        match as, kws, h with
        | [u, v], [], h =>
          simp only [okV, Bool.and_eq_true, decide_eq_true_eq] at h
          obtain ⟨⟨⟨⟨⟨⟨⟨rfl, h1⟩, h2⟩, h3⟩, h4⟩, h5⟩, h6⟩, h7⟩ := h
          exact .plain rfl (x_setd h1 h2 h3 h4 (snd_X a X W _ g h5).pe (snd_X b X W _ g h6).pe (snd_X c X W _ g h7).pe)
        | [], _, h => simp [okV] at h
        | [_], _, h => simp [okV] at h
        | _ :: _ :: _ :: _, _, h => simp [okV] at h
        | [_, _], _ :: _, h => simp [okV] at h
      | _ => simp [okV] at h
    | _ => simp [okV] at h
  | .dget a b c, X, W, x, g, h => by
    cases x with
    | Call f as kws pos =>
      cases f with
      | Attribute y nm apos =>
        match as, kws, h with
        | [u, v], [], h =>
          simp only [okV, Bool.and_eq_true, decide_eq_true_eq] at h
          obtain ⟨⟨⟨⟨⟨⟨⟨rfl, h1⟩, h2⟩, h3⟩, h4⟩, h5⟩, h6⟩, h7⟩ := h
          exact .plain rfl (x_dget g.gd.room h1 h2 h3 h4 (snd_X a X W _ g h5).pe (snd_X b X W _ g h6).pe (snd_X c X W _ g h7).pe)
        | [], _, h => simp [okV] at h
        | [_], _, h => simp [okV] at h
        | _ :: _ :: _ :: _, _, h => simp [okV] at h
        | [_, _], _ :: _, h => simp [okV] at h
      | _ => simp [okV] at h
    | _ => simp [okV] at h
  | .frz a, X, W, x, g, h => by
    simp only [okV, Bool.and_eq_true] at h
    exact .plain h.2 (x_frz (snd_X a X W x g h.1).pe)
  | .fld a f, X, W, x, g, h => by simp [okV] at h
  | .mcl c nm k a es, X, W, x, g, h => by simp [okV] at h
  | .new c k es, X, W, x, g, h => by simp [okV] at h
  | .lc own tg it tt elt, X, W, x, g, h => by
    cases x with
    | ListComp y cs scope pos =>
      match cs, h with
      | [⟨tg', iter, ifs, asy⟩], h =>
        cases it with
        | p it =>
          simp only [okV, Bool.and_eq_true, decide_eq_true_eq] at h
          obtain ⟨⟨⟨⟨⟨⟨⟨rfl, h1⟩, h2⟩, h3⟩, h4⟩, h5⟩, h7⟩, h8⟩ := h
          have hif : ifs = [] → tt = .p (.bl true) := fun e => by
            subst e
            have h7' : tyesX tt = true := h7
            cases tt <;> simp [tyesX] at h7'
            rename_i e0
            cases e0 <;> simp [tyes] at h7'
            subst h7'
            rfl
          have hG : ∀ (s : Shared) (H : Hp) (C : Addr) (cl : List (Str × Addr)) (fp : List Addr), PG (X.blk s H scope (compEnvC scope cl C X.env) fp) tg' (tG X.K tg) := fun s H C cl fp => s_g (X := X.blk s H scope (compEnvC scope cl C X.env) fp) g.gd.calm g.gd.nd h5
          have hT : ∀ (s : Shared) (H : Hp) (C : Addr) (cl : List (Str × Addr)) (fp : List Addr), PTs (X.blk s H scope (compEnvC scope cl C X.env) fp) ifs (tIfX X P O ifs tt) := fun s H C cl fp => by
            match ifs, h7 with
            | [], _ => exact pts_nil
            | [c], h7 =>
              simp only [Bool.and_eq_true, Bool.not_eq_true'] at h7
              exact pts_one ((snd_X tt (X.blk s H scope (compEnvC scope cl C X.env) fp) _ _ (g.blk s H scope _ fp) h7.2).pt h7.1)
            | _ :: _ :: _, h7 => cases h7
          have hE : ∀ (s : Shared) (H : Hp) (C : Addr) (cl : List (Str × Addr)) (fp : List Addr), PE (X.blk s H scope (compEnvC scope cl C X.env) fp) y (tX X P O (fun _ _ _ _ => False) elt) := fun s H C cl fp => (snd_X elt (X.blk s H scope (compEnvC scope cl C X.env) fp) _ _ (g.blk s H scope _ fp) h8).pe
          have hno : isOwn it = false := by
            have := h4.1
            cases it <;> first | rfl | cases this
          exact .plain rfl (PE.imp (pe_lc (pos := pos) g.gd.calm g.gd.nd (snd_I it X W tg' iter g.gd h4.2) (blkOk_by h1) hG hT hE (plain_fold h3)) (c_lcp h2 hif hno))
        | x e =>
          simp only [okV, Bool.and_eq_true, decide_eq_true_eq] at h
          obtain ⟨⟨⟨⟨⟨⟨⟨rfl, h1⟩, h2⟩, h3⟩, h4⟩, h5⟩, h7⟩, h8⟩ := h
          have hif : ifs = [] → tt = .p (.bl true) := fun e => by
            subst e
            have h7' : tyesX tt = true := h7
            cases tt <;> simp [tyesX] at h7'
            rename_i e0
            cases e0 <;> simp [tyes] at h7'
            subst h7'
            rfl
          have hG : ∀ (s : Shared) (H : Hp) (C : Addr) (cl : List (Str × Addr)) (fp : List Addr), PG (X.blk s H scope (compEnvC scope cl C X.env) fp) tg' (tG X.K tg) := fun s H C cl fp => s_g (X := X.blk s H scope (compEnvC scope cl C X.env) fp) g.gd.calm g.gd.nd h5
          have hT : ∀ (s : Shared) (H : Hp) (C : Addr) (cl : List (Str × Addr)) (fp : List Addr), PTs (X.blk s H scope (compEnvC scope cl C X.env) fp) ifs (tIfX X P O ifs tt) := fun s H C cl fp => by
            match ifs, h7 with
            | [], _ => exact pts_nil
            | [c], h7 =>
              simp only [Bool.and_eq_true, Bool.not_eq_true'] at h7
              exact pts_one ((snd_X tt (X.blk s H scope (compEnvC scope cl C X.env) fp) _ _ (g.blk s H scope _ fp) h7.2).pt h7.1)
            | _ :: _ :: _, h7 => cases h7
          have hE : ∀ (s : Shared) (H : Hp) (C : Addr) (cl : List (Str × Addr)) (fp : List Addr), PE (X.blk s H scope (compEnvC scope cl C X.env) fp) y (tX X P O (fun _ _ _ _ => False) elt) := fun s H C cl fp => (snd_X elt (X.blk s H scope (compEnvC scope cl C X.env) fp) _ _ (g.blk s H scope _ fp) h8).pe
          exact .plain rfl (PE.imp (pe_lc (pos := pos) g.gd.calm g.gd.nd (pi_list (snd_X e X W iter g h4).pe) (blkOk_by h1) hG hT hE (plain_fold h3)) (c_lcx h2 hif))
      | [], h => simp [okV] at h
      | _ :: _ :: _, h => simp [okV] at h
    | _ => simp [okV] at h
theorem snd_Xs : ∀ (es : XEs) (X : Cx) (W : WX) (xs : List Expr), GdO X T P S O n m W → okVs T S n m X.N X.env.scope es xs = true → PA X xs (tXs X P O W es)
  | .nil, X, W, xs, g, h => by
    cases xs with
    | nil => exact xs_nil
    | cons _ _ => simp [okVs] at h
  | .cons e r, X, W, xs, g, h => by
    cases xs with
    | nil => simp [okVs] at h
    | cons x xs =>
      simp only [okVs, Bool.and_eq_true] at h
      exact xs_cons h.1.1 (snd_X e X W x g h.1.2).pe (snd_Xs r X W xs g h.2)
end
end
end NW
end

section
set_option maxHeartbeats 8000000
/-! Statements over cells. -/
namespace NW
open PySem PySem.Spec PyProof.Rows L2
structure GsO (X : Cx) (T : Tx) (P : Pg) (S : List SigO) (O : PgO) (n m : Nat) (W : WX) : Prop where
  gs : Gs X T P n W
  ofn : ∀ k sg, k < m → S[k]? = some sg → FnXO X.prog X.w X.K X.mg X.base n sg (O.F k)
  fld : ∀ c f, O.fld c f = true → ∃ C, X.mg c = some (.ref C) ∧ Cls X.K C ∧ NoAttr X.K C f
def EndQ (X : Cx) (W : WX) (G : Hp) (μ : List Addr) (D : Ends) : OX → Prop
  | .nx ρ h => ∀ σ H G' μ', Le G μ G' μ' → Ht X.K X.mg G' μ' h H → EvR X.K G' μ' ρ σ → D.nx σ H
  | .ct ρ h => ∀ σ H G' μ', Le G μ G' μ' → Ht X.K X.mg G' μ' h H → EvR X.K G' μ' ρ σ → D.ct σ H
  | .ret a h => ∀ v H G' μ', Le G μ G' μ' → Ht X.K X.mg G' μ' h H → AVR X.K G' μ' v a → D.rt v H
  | .exc c x h => ∀ cls dx σ H G' μ', Le G μ G' μ' → Ht X.K X.mg G' μ' h H → XR X.K X.mg H G' cls dx c x → W cls dx σ H
  | .bad => False
def tQ (X : Cx) (W : WX) (f : Ex → Hc → OX) : TS := fun D σ H => ∃ G μ h ρ, Ht X.K X.mg G μ h H ∧ EvR X.K G μ ρ σ ∧ EndQ X W G μ D (f ρ h)
section
variable {X : Cx} {T : Tx} {P : Pg} {S : List SigO} {O : PgO} {n m : Nat} {W : WX} {x y z : Expr} {pos py : Pos} {a b c e : XE}
variable {G G' H H' : Hp} {μ μ' : List Addr} {h : Hc} {ρ : Ex} {σ : L2.St}
theorem GsO.toGd (g : GsO X T P S O n m W) : GdO X T P S O n m W := ⟨g.gs.toGd, g.ofn, g.fld⟩
theorem EndQ.on {D : Ends} {o : OX} (l : Le G μ G' μ') (q : EndQ X W G μ D o) : EndQ X W G' μ' D o := by
  cases o with
  | nx ρ h => exact fun σ H G1 μ1 l1 t e => q σ H G1 μ1 (l.trans l1) t e
  | ct ρ h => exact fun σ H G1 μ1 l1 t e => q σ H G1 μ1 (l.trans l1) t e
  | ret a h => exact fun v H G1 μ1 l1 t e => q v H G1 μ1 (l.trans l1) t e
  | exc c x h => exact fun cls dx σ H G1 μ1 l1 t r => q cls dx σ H G1 μ1 (l.trans l1) t r
  | bad => exact q
/-- a term, then a statement -/
theorem bndQ {a : XE} {f : AV → Hc → OX} {D : Ends} {Q' : VK} (t : Ht X.K X.mg G μ h H) (er : EvR X.K G μ ρ σ) (q : EndQ X W G μ D (OX.of (xv P O a ρ h) f))
    (c : ∀ x v h1 H1 G1 μ1, Le G μ G1 μ1 → Ht X.K X.mg G1 μ1 h1 H1 → EvR X.K G1 μ1 ρ σ → AVR X.K G1 μ1 v x → EndQ X W G1 μ1 D (f x h1) → Q' v H1) : tX X P O W a σ H Q' := by
  refine ⟨G, μ, h, ρ, t, er, ?_⟩
  cases z : xv P O a ρ h with
  | ok x h1 => rw [z] at q; exact fun H1 G1 μ1 l t1 v r => c x v h1 H1 G1 μ1 l t1 (er.mono l) r (q.on l)
  | exc c x h1 => rw [z] at q; exact fun cls dx H' G' μ' l t r => q cls dx σ H' G' μ' l t r
  | bad => rw [z] at q; exact q
theorem bndQT {a : XE} {f : Bool → Hc → OX} {D : Ends} {Q' : Bool → Hp → Prop} (t : Ht X.K X.mg G μ h H) (er : EvR X.K G μ ρ σ) (q : EndQ X W G μ D (OX.of (tstX P O a ρ h) f))
    (c : ∀ b h1 H1 G1 μ1, Le G μ G1 μ1 → Ht X.K X.mg G1 μ1 h1 H1 → EvR X.K G1 μ1 ρ σ → EndQ X W G1 μ1 D (f b h1) → Q' b H1) : tXT X P O W a σ H Q' := by
  refine ⟨G, μ, h, ρ, t, er, ?_⟩
  cases z : tstX P O a ρ h with
  | ok x h1 => rw [z] at q; exact fun H1 G1 μ1 l t1 => c x h1 H1 G1 μ1 l t1 (er.mono l) (q.on l)
  | exc c x h1 => rw [z] at q; exact fun cls dx H' G' μ' l t r => q cls dx σ H' G' μ' l t r
  | bad => rw [z] at q; exact q
theorem EvR.set (er : EvR X.K G μ ρ σ) {v : V} {x : AV} (r : AVR X.K G μ v x) (i : Nat) : EvR X.K G μ (ρ.set i (some x)) (σ.set i (some v)) := by
  refine ⟨by simp [er.len], fun j a e => ?_⟩
  by_cases z : i = j
  · subst z
    have hi : i < ρ.length := by
      have := (List.getElem?_eq_some_iff.mp e).1
      simpa using this
    rw [List.getElem?_set_self hi] at e
    cases e
    exact ⟨v, List.getElem?_set_self (by rw [← er.len]; exact hi), r⟩
  · rw [List.getElem?_set_ne z] at e ⊢
    exact er.at_ j a e
theorem EvR.un1 (er : EvR X.K G μ ρ σ) (i : Nat) : EvR X.K G μ (ρ.set i none) σ := by
  refine ⟨by simp [er.len], fun j a e => ?_⟩
  by_cases z : i = j
  · subst z
    have hi : i < ρ.length := by
      have := (List.getElem?_eq_some_iff.mp e).1
      simpa using this
    rw [List.getElem?_set_self hi] at e
    cases e
  · rw [List.getElem?_set_ne z] at e
    exact er.at_ j a e
theorem EvR.un (er : EvR X.K G μ ρ σ) : ∀ tmp : List Nat, EvR X.K G μ (unX tmp ρ) σ
  | [] => er
  | i :: is => (EvR.un er is).un1 i
theorem all_setX {Q : L2.St → Hp → Prop} : ∀ {is : List Nat} {vs : List V} {ds : List AV} {ρ : Ex} {σ : L2.St}, EvR X.K G μ ρ σ → AVRs X.K G μ vs ds → ds.length = is.length →
    (∀ σ', EvR X.K G μ ((is.zip ds).foldl (fun r p => r.set p.1 (some p.2)) ρ) σ' → Q σ' H) → gAll is vs σ H Q
  | [], vs, ds, ρ, σ, er, r, hl, c => by
    cases ds with
    | nil => cases r; exact ⟨rfl, c σ er⟩
    | cons _ _ => simp at hl
  | i :: is, vs, ds, ρ, σ, er, r, hl, c => by
    cases ds with
    | nil => simp at hl
    | cons d ds =>
      cases r with
      | cons r t => exact ⟨_, _, rfl, all_setX (er.set r i) t (by simpa using hl) c⟩
theorem g_setX {tg : Tg} {v : V} {d : AV} {ρ1 : Ex} {Q : L2.St → Hp → Prop} (t : Ht X.K X.mg G μ h H) (er : EvR X.K G μ ρ σ) (r : AVR X.K G μ v d) (e : setX h tg d ρ = some ρ1)
    (c : ∀ σ', EvR X.K G μ ρ1 σ' → Q σ' H) : tG X.K tg v σ H Q := by
  cases tg with
  | nm i =>
    simp only [setX] at e
    cases e
    exact c _ (er.set r i)
  | tp is =>
    simp only [setX] at e
    cases q : prts h d with
    | none => rw [q] at e; cases e
    | some xs =>
      rw [q] at e
      simp only at e
      split at e <;> cases e
      rename_i hl
      have key : ∃ a vs, v = .ref a ∧ SqT X.K G a vs ∧ AVRs X.K G μ vs xs := by
        cases d with
        | fz d =>
          cases d <;> simp only [prts] at q <;> cases q
          cases r with
          | fz r => cases r with
            | tup q r => exact ⟨_, _, rfl, q, reps_fzs r⟩
        | tp ys =>
          simp only [prts] at q
          cases q
          cases r with
          | tp q r => exact ⟨_, _, rfl, q, r⟩
        | loc n => simp only [prts] at q; cases q
      obtain ⟨a, vs, rfl, q1, q2⟩ := key
      exact ⟨a, vs, rfl, sqT_keep t.sub q1, by rw [q2.length, hl], all_setX er q2 hl c⟩
/-! ### stores of comprehensions -/
theorem go_p {e : E} {k : Nat} (hk : k ≠ 1) {Q : VK} (q : tX X P O W (.p e) σ H Q) : tK X P W k e σ H Q := by
  refine tK_still hk ?_
  obtain ⟨G, μ, h, ρ, t, er, q⟩ := q
  simp only [xv] at q
  refine ⟨G, G, prE h ρ, er.er t, ?_⟩
  cases z : ev P e (prE h ρ) with
  | ok d => rw [z] at q; exact EndR.toFin q t
  | exc c y => rw [z] at q; exact fun cls dx H' G' w r => q cls dx H' G' μ ⟨w.stl, List.prefix_refl μ⟩ (t.ext w) r
  | bad => rw [z] at q; exact q
theorem go_t {e : E} {Q : VK} (q : tX X P O W (.t e) σ H Q) : tK X P W 2 e σ H Q := by
  obtain ⟨G, μ, h, ρ, t, er, q⟩ := q
  simp only [xv] at q
  refine ⟨G, G, prE h ρ, er.er t, ?_⟩
  cases z : ev P e (prE h ρ) with
  | ok d =>
    rw [z] at q
    simp only [lft_ok, bnd_ok] at q
    intro v H' G' w r
    obtain ⟨a, vs, ds, rfl, rfl, na, ga, ha, rr⟩ := r
    simp only [trk] at q
    exact q H' G' (μ ++ [a]) ⟨w.stl, List.prefix_append _ _⟩ (t.laid w na ga ha ⟨vs, rfl, reps_fzs rr⟩) _ (.loc t.last)
  | exc c y => rw [z] at q; exact fun cls dx H' G' w r => q cls dx H' G' μ ⟨w.stl, List.prefix_refl μ⟩ (t.ext w) r
  | bad => rw [z] at q; exact q
def inE : XE → Option E
  | .p e => some e
  | .t e => some e
  | _ => none
/-- the parts of a comprehension that is stored -/
theorem x_lcStore {own : List Nat} {tg : Tg} {it : IX} {tt elt : XE} {i : Nat} {nm : Str} {z : Expr} {cs : List Comprehension} {scope : Scope} {p : Pos} (g : GsO X T P S O n m W) (hi : X.N[i]? = some nm) (hl : locB X.env.scope nm = true) (hp : (py.line == p.line) = true)
    (ha : (scope.names.any fun (n, k) => n == nm && (k == .local || k == .cell)) = false) (h : okV T S n m X.N X.env.scope (.lc own tg it tt elt) (.ListComp z cs scope p) = true) :
    PS X (.Assign [.Name nm py] (.ListComp z cs scope p) pos) (tAsg (tX X P O W (.lc own tg it tt elt)) (gName i)) := by
  match cs, h with
  | [⟨tg', iter, ifs, asy⟩], h =>
    cases it with
    | p it =>
      simp only [okV, Bool.and_eq_true, decide_eq_true_eq] at h
      obtain ⟨⟨⟨⟨⟨⟨⟨rfl, h1⟩, h2⟩, h3⟩, h4⟩, h5⟩, h7⟩, h8⟩ := h
      have g' := g.toGd
      have hif : ifs = [] → tt = .p (.bl true) := fun e => by
        subst e
        have h7' : tyesX tt = true := h7
        cases tt <;> simp [tyesX] at h7'
        rename_i e0
        cases e0 <;> simp [tyes] at h7'
        subst h7'
        rfl
      have hG : ∀ (s : Shared) (H : Hp) (C : Addr) (cl : List (Str × Addr)) (fp : List Addr), PG (X.blk s H scope (compEnvC scope cl C X.env) fp) tg' (tG X.K tg) := fun s H C cl fp => s_g (X := X.blk s H scope (compEnvC scope cl C X.env) fp) g'.gd.calm g'.gd.nd h5
      have hT : ∀ (s : Shared) (H : Hp) (C : Addr) (cl : List (Str × Addr)) (fp : List Addr), PTs (X.blk s H scope (compEnvC scope cl C X.env) fp) ifs (tIfX X P O ifs tt) := fun s H C cl fp => by
        match ifs, h7 with
        | [], _ => exact pts_nil
        | [c], h7 =>
          simp only [Bool.and_eq_true, Bool.not_eq_true'] at h7
          exact pts_one ((snd_X tt (X.blk s H scope (compEnvC scope cl C X.env) fp) _ _ (g'.blk s H scope _ fp) h7.2).pt h7.1)
        | _ :: _ :: _, h7 => cases h7
      have hE : ∀ (s : Shared) (H : Hp) (C : Addr) (cl : List (Str × Addr)) (fp : List Addr), PE (X.blk s H scope (compEnvC scope cl C X.env) fp) z (tX X P O (fun _ _ _ _ => False) elt) := fun s H C cl fp => (snd_X elt (X.blk s H scope (compEnvC scope cl C X.env) fp) _ _ (g'.blk s H scope _ fp) h8).pe
      have hy := loc_of (N := X.N) hl
      have hno : isOwn it = false := by
        have := h4.1
        cases it <;> first | rfl | cases this
      refine PS.imp (ps_setLc (pos := p) (spos := pos) (py := py) g'.gd.calm g'.gd.nd hi hy (sw_true g.gs.kind hy hp ha) (snd_I it X W tg' iter g'.gd h4.2) (blkOk_by h1) hG hT hE (plain_fold h3)) ?_
      exact tAsg_mono (c_lcp h2 hif hno)
    | x e =>
      simp only [okV, Bool.and_eq_true, decide_eq_true_eq] at h
      obtain ⟨⟨⟨⟨⟨⟨⟨rfl, h1⟩, h2⟩, h3⟩, h4⟩, h5⟩, h7⟩, h8⟩ := h
      have g' := g.toGd
      have hif : ifs = [] → tt = .p (.bl true) := fun e => by
        subst e
        have h7' : tyesX tt = true := h7
        cases tt <;> simp [tyesX] at h7'
        rename_i e0
        cases e0 <;> simp [tyes] at h7'
        subst h7'
        rfl
      have hG : ∀ (s : Shared) (H : Hp) (C : Addr) (cl : List (Str × Addr)) (fp : List Addr), PG (X.blk s H scope (compEnvC scope cl C X.env) fp) tg' (tG X.K tg) := fun s H C cl fp => s_g (X := X.blk s H scope (compEnvC scope cl C X.env) fp) g'.gd.calm g'.gd.nd h5
      have hT : ∀ (s : Shared) (H : Hp) (C : Addr) (cl : List (Str × Addr)) (fp : List Addr), PTs (X.blk s H scope (compEnvC scope cl C X.env) fp) ifs (tIfX X P O ifs tt) := fun s H C cl fp => by
        match ifs, h7 with
        | [], _ => exact pts_nil
        | [c], h7 =>
          simp only [Bool.and_eq_true, Bool.not_eq_true'] at h7
          exact pts_one ((snd_X tt (X.blk s H scope (compEnvC scope cl C X.env) fp) _ _ (g'.blk s H scope _ fp) h7.2).pt h7.1)
        | _ :: _ :: _, h7 => cases h7
      have hE : ∀ (s : Shared) (H : Hp) (C : Addr) (cl : List (Str × Addr)) (fp : List Addr), PE (X.blk s H scope (compEnvC scope cl C X.env) fp) z (tX X P O (fun _ _ _ _ => False) elt) := fun s H C cl fp => (snd_X elt (X.blk s H scope (compEnvC scope cl C X.env) fp) _ _ (g'.blk s H scope _ fp) h8).pe
      have hy := loc_of (N := X.N) hl
      refine PS.imp (ps_setLc (pos := p) (spos := pos) (py := py) g'.gd.calm g'.gd.nd hi hy (sw_true g.gs.kind hy hp ha) (pi_list (snd_X e X W iter g' h4).pe) (blkOk_by h1) hG hT hE (plain_fold h3)) ?_
      exact tAsg_mono (c_lcx h2 hif)
  | [], h => simp [okV] at h
  | _ :: _ :: _, h => simp [okV] at h
/-- a store as the look lets it pass -/
def okSto (T : Tx) (n : Nat) (sc : Scope) (x : Str) (py : Pos) (N : List Str) (e : XE) (y : Expr) : Bool :=
  if isLc y then (match e with
    | .p e' => lcSwap sc x py y && okE T n N sc e' y && (kd T e' != 1)
    | .t e' => lcSwap sc x py y && okE T n N sc e' y && (kd T e' == 2)
    | .lc _ _ _ _ _ => (match y with
      | .ListComp _ _ scope pos => locB sc x && (py.line == pos.line) && !(scope.names.any fun (n, k) => n == x && (k == .local || k == .cell))
      | _ => false)
    | _ => false) else true
theorem x_sto {i : Nat} {nm : Str} (g : GsO X T P S O n m W) (hi : X.N[i]? = some nm) (hs : stoB X.env.scope nm = true) (hl : okSto T n X.env.scope nm py X.N e y = true) (h : okV T S n m X.N X.env.scope e y = true) :
    PS X (.Assign [.Name nm py] y pos) (tAsg (tX X P O W e) (gName i)) := by
  unfold okSto at hl
  split at hl
  · split at hl
    · rename_i e'
      simp only [Bool.and_eq_true, bne_iff_ne] at hl
      exact PS.imp (s_asg (P := P) (W := W) g.gs hi hs hl.1.1 hl.1.2) fun D σ H q => go_p hl.2 q
    · rename_i e'
      simp only [Bool.and_eq_true, beq_iff_eq] at hl
      have := s_asg (P := P) (W := W) (pos := pos) g.gs hi hs hl.1.1 hl.1.2
      rw [hl.2] at this
      exact PS.imp this fun D σ H q => go_t q
    · split at hl
      · simp only [Bool.and_eq_true, Bool.not_eq_true'] at hl
        exact x_lcStore g hi hl.1.1 hl.1.2 hl.2 h
      · cases hl
    · cases hl
  · rename_i hc
    exact s_store g.gs hi hs (by simpa using hc) (snd_X e X W y g.toGd h).pe
/-! ### the look -/
mutual
def okZ (T : Tx) (S : List SigO) (n m : Nat) (N : List Str) (sc : Scope) : SX → Stmt → Bool
  | .set i e, .Assign [.Name x py] y _ => decide (N[i]? = some x) && stoB sc x && okSto T n sc x py N e y && okV T S n m N sc e y
  | .tup is e, .Assign [t] y _ => okGS N sc (.tp is) t && !isLc y && !isTup y && okV T S n m N sc e y
  | .expr e, .Expr y _ => !isLc y && okV T S n m N sc e y
  | .seti a i e, .Assign [.Subscript o j _] y _ => !isTup y && plainE j && okV T S n m N sc e y && okV T S n m N sc a o && okV T S n m N sc i j
  | .setd a i e, .Assign [.Subscript o j _] y _ => okV T S n m N sc e y && okV T S n m N sc a o && okV T S n m N sc i j
  | .ifs c a b, .If x p q _ => !isIfX c && okV T S n m N sc c x && okZs T S n m N sc a p && okZs T S n m N sc b q
  | .for_ _ tg (.p it) body, .For t x b [] _ => ptI it && okGS N sc tg t && plainE x && okI T n N sc it x && okZs T S n m N sc body b
  | .for_ _ tg (.x e) body, .For t x b [] _ => okGS N sc tg t && plainE x && okV T S n m N sc e x && okZs T S n m N sc body b
  | .whil _ _ c body, .While x b [] _ => !isIfX c && okV T S n m N sc c x && okZs T S n m N sc body b
  | .ret e, .Return (some y) _ => okV T S n m N sc e y
  | .retN, .Return none _ => true
  | .pass, .Pass _ => true
  | .pass, .Expr (.Constant (.str _) _ _) _ => true
  | .cont, .Continue _ => true
  | .rais c, st => rais1 c st && glB sc c && okN c && T.exs.contains c
  | _, _ => false
def okZs (T : Tx) (S : List SigO) (n m : Nat) (N : List Str) (sc : Scope) : SXs → List Stmt → Bool
  | .nil, [] => true
  | .cons s r, x :: xs => okZ T S n m N sc s x && okZs T S n m N sc r xs
  | .fz _ r, xs => okZs T S n m N sc r xs
  | _, _ => false
end
theorem x_for {tmp : List Nat} {tg : Tg} {it : NW.It} {body : SXs} {t : Expr} {bb : List Stmt} (g : GsO X T P S O n m W) (hno : ptI it = true) (ht : okGS X.N X.env.scope tg t = true) (hp : plainE x = true) (hi : PI X t x (tI X P W it)) (hb : PSs X bb (tQ X W (exXs P O body))) :
    PS X (.For t x bb [] pos) (tQ X W (exX P O (.for_ tmp tg (.p it) body))) := by
  refine PS.imp (ps_for g.gs.pass g.gs.calm hi (s_gS g.gs ht) hb (plain_fold hp)) fun D σ H ⟨G, μ, h, ρ, tt, er, q⟩ => ?_
  simp only [exX] at q
  refine ⟨G, G, prE h ρ, er.er tt, ?_⟩
  have hB : bI it G H = G := by cases it <;> first | rfl | cases hno
  rw [hB]
  cases qi : evI P it (prE h ρ) with
  | exc c z => rw [qi] at q; exact fun cls dx H' G' w r => q cls dx σ H' G' μ ⟨w.stl, List.prefix_refl μ⟩ (tt.ext w) r
  | bad => rw [qi] at q; exact q
  | ok xs =>
    rw [qi] at q
    simp only [lft_ok, bnd_ok, ox_ok] at q
    intro J H1 G1 w1 Y
    have t1 := tt.ext w1
    have l1 : Le G μ G1 μ := ⟨w1.stl, List.prefix_refl μ⟩
    let F : Ex → Hc → List Dat → OX := fun ρ h ds => forX tmp (fun x ρ h => match setX h tg x ρ with
      | some ρ => exXs P O body ρ h
      | none => .bad) (ds.map .fz) ρ h
    refine ⟨fun i k σ' H' => k = xs.length - i ∧ i ≤ xs.length ∧ ∃ G' μ' h' ρ', Le G1 μ G' μ' ∧ Ht X.K X.mg G' μ' h' H' ∧ EvR X.K G' μ' ρ' σ' ∧ EndQ X W G' μ' D (F ρ' h' (xs.drop i)),
      ⟨xs.length, by simp, Nat.zero_le _, G1, μ, h, ρ, Le.refl _ _, t1, er.mono l1, q.on l1⟩, ?_⟩
    rintro i k σ2 H2 ⟨rfl, hle, G2, μ2, h2, ρ2, l2, t2, er2, q2⟩
    have er2' := er2.un tmp
    have sB : Same G H2 := (w1.stl.trans l2.1).trans t2.sub
    by_cases hlt : i < xs.length
    · refine .inr ⟨Y.go i H2 G2 hlt sB l2.1 t2.sub, fun σ' H' => ∃ k', k' < xs.length - i ∧ (k' = xs.length - (i + 1) ∧ i + 1 ≤ xs.length ∧ ∃ G' μ' h' ρ', Le G1 μ G' μ' ∧ Ht X.K X.mg G' μ' h' H' ∧ EvR X.K G' μ' ρ' σ' ∧ EndQ X W G' μ' D (F ρ' h' (xs.drop (i + 1)))),
        fun σ' H' h => h, fun v H3 y => ?_⟩
      obtain ⟨d, G3, hd, w3, rd⟩ := Y.yld i H2 G2 v H3 hlt sB l2.1 t2.sub y
      have edrop : xs.drop i = d :: xs.drop (i + 1) := by
        rw [List.drop_eq_getElem_cons hlt]
        have := (List.getElem?_eq_some_iff.mp hd).2
        rw [this]
      rw [edrop] at q2
      simp only [F, List.map_cons, forX] at q2
      have t3 := t2.ext w3
      have l3 : Le G2 μ2 G3 μ2 := ⟨w3.stl, List.prefix_refl μ2⟩
      cases qs : setX h2 tg (.fz d) (unX tmp ρ2) with
      | none => rw [qs] at q2; exact q2.elim
      | some ρ3 =>
        rw [qs] at q2
        simp only at q2
        refine g_setX t3 (er2'.mono l3) (.fz rd) qs fun σ4 er4 => ?_
        refine ⟨G3, μ2, h2, ρ3, t3, er4, ?_⟩
        have q3 := q2.on l3
        cases qo : exXs P O body ρ3 h2 with
        | nx ρ5 h5 =>
          rw [qo] at q3
          exact fun σ6 H6 G6 μ6 l6 t6 er6 => ⟨xs.length - (i + 1), by omega, rfl, hlt, G6, μ6, h5, ρ5, (l2.trans l3).trans l6, t6, er6, EndQ.on l6 q3⟩
        | ct ρ5 h5 =>
          rw [qo] at q3
          exact fun σ6 H6 G6 μ6 l6 t6 er6 => ⟨xs.length - (i + 1), by omega, rfl, hlt, G6, μ6, h5, ρ5, (l2.trans l3).trans l6, t6, er6, EndQ.on l6 q3⟩
        | ret d h5 => rw [qo] at q3; exact q3
        | exc c z h5 => rw [qo] at q3; exact q3
        | bad => rw [qo] at q3; exact q3
    · have e : i = xs.length := by omega
      subst e
      rw [List.drop_length] at q2
      simp only [F, List.map_nil, forX] at q2
      exact .inl ⟨Y.stop H2 G2 sB l2.1 t2.sub, q2 σ2 H2 G2 μ2 (Le.refl _ _) t2 er2'⟩
/-- a loop over a list as it stands at each turn -/
theorem x_forV {tmp : List Nat} {tg : Tg} {body : SXs} {t : Expr} {bb : List Stmt} (g : GsO X T P S O n m W) (ht : okGS X.N X.env.scope tg t = true) (hp : plainE x = true) (hx : PE X x (tX X P O W a)) (hb : PSs X bb (tQ X W (exXs P O body))) :
    PS X (.For t x bb [] pos) (tQ X W (exX P O (.for_ tmp tg (.x a) body))) := by
  refine PS.imp (ps_for g.gs.pass g.gs.calm (pi_list hx) (s_gS g.gs ht) hb (plain_fold hp)) fun D σ H ⟨G, μ, h, ρ, tt, er, q⟩ => ?_
  simp only [exX] at q
  refine bndQ tt er q fun d v h1 H1 G1 μ1 l1 t1 er1 r1 q1 => ?_
  cases d with
  | loc n =>
    simp only at q1
    cases r1 with
    | loc e1 =>
      rename_i p
      let F : Nat → Nat → Ex → Hc → OX := forV n tmp (fun x ρ h => match setX h tg x ρ with
        | some ρ => exXs P O body ρ h
        | none => .bad)
      have key : ∀ {k i : Nat} {ρ' : Ex} {h' : Hc} {H' G' : Hp} {μ' : List Addr}, μ'[n]? = some p → Ht X.K X.mg G' μ' h' H' → EndQ X W G' μ' D (F k i ρ' h') → ∃ xs vs k', k = k' + 1 ∧ h'[n]? = some (.lst xs) ∧ H' p = some (.lst vs) ∧ AVRs X.K G' μ' vs xs := fun {k i ρ' h' H' G' μ'} e t q => by
        cases k with
        | zero => exact q.elim
        | succ k =>
          simp only [F, forV] at q
          cases hh : h'[n]? with
          | none => rw [hh] at q; exact q.elim
          | some c =>
            cases c with
            | lst xs =>
              obtain ⟨a', vs, ea, e2, e3, e4, e5⟩ := t.lst (v := .ref p) hh (.loc e)
              cases ea
              exact ⟨xs, vs, k, rfl, rfl, e4, e5⟩
            | _ => rw [hh] at q; exact q.elim
      refine ⟨p, rfl, ?_, ?_⟩
      · obtain ⟨xs, vs, k', _, _, e4, _⟩ := key e1 t1 q1
        exact ⟨vs, SqL.of e4⟩
      · refine ⟨fun i k σ' H' => ∃ G' μ' h' ρ', Le G1 μ1 G' μ' ∧ Ht X.K X.mg G' μ' h' H' ∧ EvR X.K G' μ' ρ' σ' ∧ EndQ X W G' μ' D (F k i ρ' h'),
          ⟨bigN, G1, μ1, h1, ρ, Le.refl _ _, t1, er1, q1⟩, ?_⟩
        rintro i k σ2 H2 ⟨G2, μ2, h2, ρ2, l2, t2, er2, q2⟩
        obtain ⟨xs, vs, k', rfl, hh, e4, e5⟩ := key (pre_get l2.2 e1) t2 q2
        simp only [F, forV, hh] at q2
        have er2' := er2.un tmp
        cases hx : xs[i]? with
        | none =>
          rw [hx] at q2
          refine .inl ⟨⟨vs, SqL.of e4, ?_⟩, q2 σ2 H2 G2 μ2 (Le.refl _ _) t2 er2'⟩
          rw [e5.length]
          exact List.getElem?_eq_none_iff.mp hx
        | some u =>
          rw [hx] at q2
          simp only at q2
          obtain ⟨w, e6, e7⟩ := e5.get hx
          refine .inr ⟨⟨vs, w, SqL.of e4, e6⟩, fun σ' H' => ∃ k'', k'' < k' + 1 ∧ ∃ G' μ' h' ρ', Le G1 μ1 G' μ' ∧ Ht X.K X.mg G' μ' h' H' ∧ EvR X.K G' μ' ρ' σ' ∧ EndQ X W G' μ' D (F k'' (i + 1) ρ' h'), fun σ' H' h => h, fun w' H3 y => ?_⟩
          obtain ⟨rfl, y⟩ := y
          have ew := y vs (SqL.of e4)
          rw [e6] at ew
          cases ew
          cases qs : setX h2 tg u (unX tmp ρ2) with
          | none => rw [qs] at q2; exact q2.elim
          | some ρ3 =>
            rw [qs] at q2
            simp only at q2
            refine g_setX t2 er2' e7 qs fun σ4 er4 => ?_
            refine ⟨G2, μ2, h2, ρ3, t2, er4, ?_⟩
            cases qo : exXs P O body ρ3 h2 with
            | nx ρ5 h5 =>
              rw [qo] at q2
              exact fun σ6 H6 G6 μ6 l6 t6 er6 => ⟨k', Nat.lt_succ_self _, G6, μ6, h5, ρ5, l2.trans l6, t6, er6, EndQ.on l6 q2⟩
            | ct ρ5 h5 =>
              rw [qo] at q2
              exact fun σ6 H6 G6 μ6 l6 t6 er6 => ⟨k', Nat.lt_succ_self _, G6, μ6, h5, ρ5, l2.trans l6, t6, er6, EndQ.on l6 q2⟩
            | ret d h5 => rw [qo] at q2; exact q2
            | exc c z h5 => rw [qo] at q2; exact q2
            | bad => rw [qo] at q2; exact q2
  | _ => exact q1.elim
theorem x_whil {fuel : Ex → Hc → Nat} {tmp : List Nat} {body : SXs} {bb : List Stmt} (g : GsO X T P S O n m W) (hc : PT X x (tXT X P O W c)) (hb : PSs X bb (tQ X W (exXs P O body))) :
    PS X (.While x bb [] pos) (tQ X W (exX P O (.whil fuel tmp c body))) := by
  refine PS.imp (ps_while g.gs.pass hc hb) fun D σ H ⟨G, μ, h, ρ, t, er, q⟩ => ?_
  simp only [exX] at q
  refine ⟨fun k σ' H' => ∃ G' μ' h' ρ', Le G μ G' μ' ∧ Ht X.K X.mg G' μ' h' H' ∧ EvR X.K G' μ' ρ' σ' ∧ EndQ X W G' μ' D (whX tmp (tstX P O c) (exXs P O body) k ρ' h'), ⟨fuel ρ h, G, μ, h, ρ, Le.refl _ _, t, er, q⟩, ?_⟩
  rintro k σ2 H2 ⟨G2, μ2, h2, ρ2, l2, t2, er2, q2⟩
  cases k with
  | zero => exact q2.elim
  | succ k =>
    simp only [whX] at q2
    refine bndQT t2 (er2.un tmp) q2 fun r h3 H3 G3 μ3 l3 t3 er3 q3 => ?_
    cases r with
    | true =>
      rw [if_pos rfl]
      simp only at q3
      refine ⟨fun σ' H' => ∃ k', k' < k + 1 ∧ ∃ G' μ' h' ρ', Le G μ G' μ' ∧ Ht X.K X.mg G' μ' h' H' ∧ EvR X.K G' μ' ρ' σ' ∧ EndQ X W G' μ' D (whX tmp (tstX P O c) (exXs P O body) k' ρ' h'), fun σ' H' h => h, G3, μ3, h3, unX tmp ρ2, t3, er3, ?_⟩
      cases qo : exXs P O body (unX tmp ρ2) h3 with
      | nx ρ5 h5 => rw [qo] at q3; exact fun σ6 H6 G6 μ6 l6 t6 er6 => ⟨k, Nat.lt_succ_self k, G6, μ6, h5, ρ5, (l2.trans l3).trans l6, t6, er6, EndQ.on l6 q3⟩
      | ct ρ5 h5 => rw [qo] at q3; exact fun σ6 H6 G6 μ6 l6 t6 er6 => ⟨k, Nat.lt_succ_self k, G6, μ6, h5, ρ5, (l2.trans l3).trans l6, t6, er6, EndQ.on l6 q3⟩
      | ret d h5 => rw [qo] at q3; exact q3
      | exc c z h5 => rw [qo] at q3; exact q3
      | bad => rw [qo] at q3; exact q3
    | false =>
      rw [if_neg Bool.false_ne_true]
      exact q3 _ H3 G3 μ3 (Le.refl _ _) t3 er3
theorem swaps_sub {e o j : Expr} {p : Pos} {l : Nat} {env : Env} : swapsWith e (some (.Subscript o j p)) l env = pure false := by cases e <;> rfl
theorem assign_sub {o i : Expr} (hp : plainE i = true) : ∀ v, assign (.Subscript o i pos) X.env v = (do
      let ov ← holding [v] (eval o X.env)
      let iv ← holding [v, ov] (eval i X.env)
      standAt pos
      holding [v, ov, iv] (setItem ov iv v)
      release [v, ov, iv] []) := fun v => by cases i <;> first | rfl | (simp [plainE] at hp)
end
end NW
end

section
set_option maxHeartbeats 8000000
/-! Statements over cells hold; a def as a whole. -/
namespace NW
open PySem PySem.Spec PyProof.Rows L2
section
variable {X : Cx} {T : Tx} {P : Pg} {S : List SigO} {O : PgO} {n m : Nat} {W : WX}
theorem set_same {α : Type} {l : List α} {i : Nat} {a : α} (e : l[i]? = some a) : l.set i a = l := by
  apply List.ext_getElem?
  intro j
  by_cases z : i = j
  · subst z
    rw [List.getElem?_set_self (List.getElem?_eq_some_iff.mp e).1, e]
  · rw [List.getElem?_set_ne z]
def flatZ : SX → Bool
  | .ifs _ _ _ => false
  | .for_ _ _ _ _ => false
  | .whil _ _ _ _ => false
  | _ => true
theorem snd_Z0 : ∀ (s : SX) (st : Stmt), flatZ s = true → GsO X T P S O n m W → okZ T S n m X.N X.env.scope s st = true → PS X st (tQ X W (exX P O s))
  | .set i e, st, _, g, h => by
    cases st with
    | Assign ts y pos =>
      match ts, h with
      | [tt], h =>
        cases tt with
        | Name nm py =>
          simp only [okZ, Bool.and_eq_true, decide_eq_true_eq] at h
          obtain ⟨⟨⟨h1, h2⟩, h3⟩, h4⟩ := h
          refine PS.imp (x_sto (P := P) (O := O) (W := W) (pos := pos) g h1 h2 h3 h4) fun D σ H ⟨G, μ, hh, ρ, t, er, q⟩ => ?_
          simp only [exX] at q
          refine bndQ t er q fun d v h1 H1 G1 μ1 l1 t1 er1 r1 q1 => ?_
          exact q1 _ H1 G1 μ1 (Le.refl _ _) t1 (er1.set r1 i)
        | _ => simp [okZ] at h
      | [], h => simp [okZ] at h
      | u :: _ :: _, h => first | exact absurd (show false = true from h) (by decide) | (cases u <;> exact absurd (show false = true from h) (by decide))
    | _ => simp [okZ] at h
  | .tup is e, st, _, g, h => by
    cases st with
    | Assign ts y pos =>
      match ts, h with
      | [t], h =>
        simp only [okZ, Bool.and_eq_true, Bool.not_eq_true'] at h
        obtain ⟨⟨⟨h1, h2⟩, h3⟩, h4⟩ := h
        have hG := s_gS (X := X) (tg := .tp is) g.gs h1
        have hT : ∃ es k p, t = .Tuple es k p := by
          cases t <;> simp only [okGS] at h1 <;> first | exact ⟨_, _, _, rfl⟩ | (cases h1; done)
        obtain ⟨es, k, p, rfl⟩ := hT
        refine PS.imp (ps_asg (snd_X e X W y g.toGd h4).pe hG (by show swapsWith y (some (.Tuple es k p)) pos.line X.env = pure false; exact swaps_plain h2) (by cases y <;> first | rfl | (simp [isTup] at h3)) rfl) fun D σ H ⟨G, μ, hh, ρ, t, er, q⟩ => ?_
        simp only [exX] at q
        refine bndQ t er q fun d v h1 H1 G1 μ1 l1 t1 er1 r1 q1 => ?_
        cases e1 : setX h1 (.tp is) d ρ with
        | none => rw [e1] at q1; exact q1.elim
        | some ρ1 => rw [e1] at q1; exact g_setX t1 er1 r1 e1 fun σ' er' => q1 σ' H1 G1 μ1 (Le.refl _ _) t1 er'
      | [], h => simp [okZ] at h
      | u :: _ :: _, h => first | exact absurd (show false = true from h) (by decide) | (cases u <;> exact absurd (show false = true from h) (by decide))
    | _ => simp [okZ] at h
  | .expr e, st, _, g, h => by
    cases st with
    | Expr y pos =>
      simp only [okZ, Bool.and_eq_true, Bool.not_eq_true'] at h
      refine PS.imp (ps_expr (snd_X e X W y g.toGd h.2).pe (swaps_plain h.1)) fun D σ H ⟨G, μ, hh, ρ, t, er, q⟩ => ?_
      simp only [exX] at q
      refine bndQ t er q fun d v h1 H1 G1 μ1 l1 t1 er1 r1 q1 => ?_
      exact q1 _ H1 G1 μ1 (Le.refl _ _) t1 er1
    | _ => simp [okZ] at h
  | .setf a f e, st, _, g, h => by simp [okZ] at h
  | .seti a i e, st, _, g, h => by
    cases st with
    | Assign ts y pos =>
      match ts, h with
      | [tt], h =>
        cases tt with
        | Subscript o j p' =>
          simp only [okZ, Bool.and_eq_true, Bool.not_eq_true'] at h
          obtain ⟨⟨⟨⟨h2, h3⟩, h4⟩, h5⟩, h6⟩ := h
          refine PS.imp (ps_asg (snd_X e X W y g.toGd h4).pe (pg_sub (snd_X a X W o g.toGd h5).pe (snd_X i X W j g.toGd h6).pe set_list (assign_sub h3)) (by show swapsWith y (some (.Subscript o j p')) pos.line X.env = pure false; exact swaps_sub) (by cases y <;> first | rfl | (simp [isTup] at h2)) rfl) fun D σ H ⟨G, μ, hh, ρ, t, er, q⟩ => ?_
          simp only [exX] at q
          refine bndQ t er q fun d v h1 H1 G1 μ1 l1 t1 er1 r1 q1 => ?_
          refine bndQ t1 er1 q1 fun x w h2 H2 G2 μ2 l2 t2 er2 r2 q2 => ?_
          refine bndQ t2 er2 q2 fun k u h3 H3 G3 μ3 l3 t3 er3 r3 q3 => ?_
          have r1' := (r1.mono l2).mono l3
          have r2' := r2.mono l3
          cases e1 : setiA x k d h3 with
          | none => rw [e1] at q3; exact q3.elim
          | some h4 =>
            rw [e1] at q3
            simp only [opt] at q3
            cases x with
            | loc n =>
              cases k with
              | fz k =>
                cases k with
                | int k =>
                  cases hh : h3[n]? with
                  | none => simp only [setiA, hh] at e1; cases e1
                  | some c =>
                    cases c with
                    | lst xs =>
                      simp only [setiA, hh] at e1
                      obtain ⟨p, vs, rfl, e2, e3, e4, e5⟩ := t3.lst hh r2'
                      cases e6 : L2.ixN xs.length k with
                      | none => rw [e6] at e1; cases e1
                      | some j =>
                        rw [e6] at e1
                        cases e1
                        cases r3 with
                        | fz r3 =>
                          cases r3
                          refine ⟨p, vs, k, j, rfl, rfl, e4, by rw [e5.length]; exact e6, ?_⟩
                          exact q3 _ _ G3 μ3 (Le.refl _ _) (t3.set hh (by simp) e2 ⟨_, rfl, e5.set r1' j⟩) er3
                    | _ => simp only [setiA, hh] at e1; cases e1
                | _ => simp only [setiA] at e1; cases e1
              | _ => simp only [setiA] at e1; cases e1
            | _ => simp only [setiA] at e1; cases e1
        | _ => simp [okZ] at h
      | [], h => simp [okZ] at h
      | u :: _ :: _, h => first | exact absurd (show false = true from h) (by decide) | (cases u <;> exact absurd (show false = true from h) (by decide))
    | _ => simp [okZ] at h
  | .setd a i e, st, _, g, h => by
    cases st with
    | Assign ts y pos =>
      match ts, h with
      | [tt], h =>
        cases tt with
        | Subscript o j p' =>
          simp only [okZ, Bool.and_eq_true, Bool.not_eq_true'] at h
          obtain ⟨⟨h4, h5⟩, h6⟩ := h
          refine PS.imp (ps_dput (hu_of g.gs.room) (snd_X a X W o g.toGd h5).pe (snd_X i X W j g.toGd h6).pe (snd_X e X W y g.toGd h4).pe swaps_sub) fun D σ H ⟨G, μ, hh, ρ, t, er, q⟩ => ?_
          simp only [exX] at q
          refine bndQ t er q fun d v h1 H1 G1 μ1 l1 t1 er1 r1 q1 => ?_
          refine bndQ t1 er1 q1 fun x w h2 H2 G2 μ2 l2 t2 er2 r2 q2 => ?_
          refine bndQ t2 er2 q2 fun k u h3 H3 G3 μ3 l3 t3 er3 r3 q3 => ?_
          have r1' := (r1.mono l2).mono l3
          have r2' := r2.mono l3
          cases e1 : setdA x k d h3 with
          | none => rw [e1] at q3; exact q3.elim
          | some h4 =>
            rw [e1] at q3
            simp only [opt] at q3
            cases x with
            | loc n =>
              cases k with
              | fz k =>
                cases k with
                | str s =>
                  cases hh : h3[n]? with
                  | none => simp only [setdA, hh] at e1; cases e1
                  | some c =>
                    cases c with
                    | dct kvs =>
                      simp only [setdA, hh] at e1
                      obtain ⟨p, ws, rfl, e2, e3, e4, e5, e6⟩ := t3.dct hh r2'
                      split at e1
                      · rename_i hz
                        cases e1
                        cases r3 with
                        | fz r3 =>
                          cases r3
                          refine ⟨p, _, rfl, .inl ⟨ws, .inr s, e4, rfl, lt_line (by rw [kvs_len e5]; exact hz), rfl⟩, ?_⟩
                          exact q3 _ _ G3 μ3 (Le.refl _ _) (t3.set hh (by simp) e2 (put_val e5 e6 r1')) er3
                      · cases e1
                    | _ => simp only [setdA, hh] at e1; cases e1
                | _ => simp only [setdA] at e1; cases e1
              | _ => simp only [setdA] at e1; cases e1
            | _ => simp only [setdA] at e1; cases e1
        | _ => simp [okZ] at h
      | [], h => simp [okZ] at h
      | u :: _ :: _, h => first | exact absurd (show false = true from h) (by decide) | (cases u <;> exact absurd (show false = true from h) (by decide))
    | _ => simp [okZ] at h
  | .ret e, st, _, g, h => by
    cases st with
    | Return v pos =>
      cases v with
      | none => simp [okZ] at h
      | some y =>
        simp only [okZ] at h
        refine PS.imp (ps_ret (snd_X e X W y g.toGd h).pe) fun D σ H ⟨G, μ, hh, ρ, t, er, q⟩ => ?_
        simp only [exX] at q
        refine bndQ t er q fun d v h1 H1 G1 μ1 l1 t1 er1 r1 q1 => ?_
        exact q1 v H1 G1 μ1 (Le.refl _ _) t1 r1
    | _ => simp [okZ] at h
  | .retN, st, _, g, h => by
    cases st with
    | Return v pos =>
      cases v with
      | none =>
        refine PS.imp ps_retN fun D σ H ⟨G, μ, hh, ρ, t, er, q⟩ => ?_
        simp only [exX] at q
        exact q .non H G μ (Le.refl _ _) t (.fz .non)
      | some y => simp [okZ] at h
    | _ => simp [okZ] at h
  | .pass, st, _, g, h => by
    cases st with
    | Pass pos =>
      refine PS.imp ps_pass fun D σ H ⟨G, μ, hh, ρ, t, er, q⟩ => ?_
      simp only [exX] at q
      exact q σ H G μ (Le.refl _ _) t er
    | Expr y pos =>
      cases y with
      | Constant c k p =>
        cases c with
        | str _ =>
          refine PS.imp (ps_doc) fun D σ H ⟨G, μ, hh, ρ, t, er, q⟩ => ?_
          simp only [exX] at q
          exact q σ H G μ (Le.refl _ _) t er
        | _ => simp [okZ] at h
      | _ => simp [okZ] at h
    | _ => simp [okZ] at h
  | .cont, st, _, g, h => by
    cases st with
    | Continue pos =>
      refine PS.imp ps_continue fun D σ H ⟨G, μ, hh, ρ, t, er, q⟩ => ?_
      simp only [exX] at q
      exact q σ H G μ (Le.refl _ _) t er
    | _ => simp [okZ] at h
  | .rais c, st, _, g, h => by
    simp only [okZ, Bool.and_eq_true] at h
    obtain ⟨⟨⟨h1, h2⟩, h3⟩, h4⟩ := h
    obtain ⟨np, ms, k, p2, cp, pos, rfl⟩ := rais1_ok h1
    obtain ⟨C, e1, e2⟩ := g.gs.exs c (List.contains_iff_mem.mp h4)
    have hg' : X.env.scope.names.lookup c = some .globalImplicit := of_decide_eq_true h2
    have tk := g.gs.tk
    cases hcl : T.cl with
    | false =>
      rw [hcl] at tk
      refine PS.imp (ps_raise g.gs.calm tk (pmk_own PySem.F.excBase_ValueError e2.exc e1 e2.keep (raises_own e2.sub e2.ty) hg' (okN_d h3))) fun D σ H ⟨G, μ, hh, ρ, t, er, q⟩ => ?_
      simp only [exX] at q
      exact q (.ref C) none σ H G μ (Le.refl _ _) t ⟨⟨C, e1, rfl⟩, rfl⟩
    | true =>
      rw [hcl] at tk
      refine PS.imp (L2N.ps_raise g.gs.calm tk (L2N.pmk_own PySem.F.excBase_ValueError e2.exc e1 e2.keep (raises_own e2.sub e2.ty) hg' (okN_d h3))) fun D σ H ⟨G, μ, hh, ρ, t, er, q⟩ => ?_
      simp only [exX] at q
      exact q (.ref C) none σ H G μ (Le.refl _ _) t ⟨⟨C, e1, rfl⟩, rfl⟩
  | .ifs _ _ _, _, hl, _, _ => by cases hl
  | .for_ _ _ _ _, _, hl, _, _ => by cases hl
  | .whil _ _ _ _, _, hl, _, _ => by cases hl
mutual
theorem snd_Z : ∀ (s : SX) (st : Stmt), GsO X T P S O n m W → okZ T S n m X.N X.env.scope s st = true → PS X st (tQ X W (exX P O s))
  | .ifs c a b, st, g, h => by
    cases st with
    | If x p q pos =>
      simp only [okZ, Bool.and_eq_true, Bool.not_eq_true'] at h
      obtain ⟨⟨⟨h1, h2⟩, h3⟩, h4⟩ := h
      refine PS.imp (ps_if ((snd_X c X W x g.toGd h2).pt h1) (snd_Zs a p g h3) (snd_Zs b q g h4)) fun D σ H ⟨G, μ, hh, ρ, t, er, q⟩ => ?_
      simp only [exX] at q
      refine bndQT t er q fun r h1 H1 G1 μ1 l1 t1 er1 q1 => ?_
      cases r with
      | true => rw [if_pos rfl]; exact ⟨G1, μ1, h1, ρ, t1, er1, q1⟩
      | false => rw [if_neg Bool.false_ne_true]; exact ⟨G1, μ1, h1, ρ, t1, er1, q1⟩
    | _ => simp [okZ] at h
  | .for_ tmp tg it body, st, g, h => by
    cases st with
    | For t x b els pos =>
      cases els with
      | nil =>
        cases it with
        | p it =>
          simp only [okZ, Bool.and_eq_true] at h
          obtain ⟨⟨⟨⟨h0, h1⟩, h2⟩, h3⟩, h4⟩ := h
          exact x_for g h0 h1 h2 (snd_I it X W t x g.gs.toGd h3) (snd_Zs body b g h4)
        | x e =>
          simp only [okZ, Bool.and_eq_true] at h
          obtain ⟨⟨⟨h1, h2⟩, h3⟩, h4⟩ := h
          exact x_forV g h1 h2 (snd_X e X W x g.toGd h3).pe (snd_Zs body b g h4)
      | cons _ _ => cases it <;> simp [okZ] at h
    | _ => cases it <;> simp [okZ] at h
  | .whil fuel tmp c body, st, g, h => by
    cases st with
    | While x b els pos =>
      cases els with
      | nil =>
        simp only [okZ, Bool.and_eq_true, Bool.not_eq_true'] at h
        obtain ⟨⟨h1, h2⟩, h3⟩ := h
        exact x_whil g ((snd_X c X W x g.toGd h2).pt h1) (snd_Zs body b g h3)
      | cons _ _ => simp [okZ] at h
    | _ => simp [okZ] at h
  | .set i e, st, g, h => snd_Z0 (.set i e) st rfl g h
  | .tup i e, st, g, h => snd_Z0 (.tup i e) st rfl g h
  | .expr e, st, g, h => snd_Z0 (.expr e) st rfl g h
  | .setf a f e, st, g, h => snd_Z0 (.setf a f e) st rfl g h
  | .seti a i e, st, g, h => snd_Z0 (.seti a i e) st rfl g h
  | .setd a i e, st, g, h => snd_Z0 (.setd a i e) st rfl g h
  | .ret e, st, g, h => snd_Z0 (.ret e) st rfl g h
  | .retN, st, g, h => snd_Z0 .retN st rfl g h
  | .pass, st, g, h => snd_Z0 .pass st rfl g h
  | .cont, st, g, h => snd_Z0 .cont st rfl g h
  | .rais c, st, g, h => snd_Z0 (.rais c) st rfl g h
theorem snd_Zs : ∀ (s : SXs) (st : List Stmt), GsO X T P S O n m W → okZs T S n m X.N X.env.scope s st = true → PSs X st (tQ X W (exXs P O s))
  | .nil, st, g, h => by
    cases st with
    | nil =>
      exact PSs.imp pss_nil fun D σ H ⟨G, μ, hh, ρ, t, er, q⟩ => by
        simp only [exXs] at q
        exact q σ H G μ (Le.refl _ _) t er
    | cons _ _ => simp [okZs] at h
  | .cons s r, st, g, h => by
    cases st with
    | nil => simp [okZs] at h
    | cons x xs =>
      simp only [okZs, Bool.and_eq_true] at h
      refine PSs.imp (pss_cons (snd_Z s x g h.1) (snd_Zs r xs g h.2)) fun D σ H ⟨G, μ, hh, ρ, t, er, q⟩ => ?_
      simp only [exXs] at q
      refine ⟨G, μ, hh, ρ, t, er, ?_⟩
      cases qo : exX P O s ρ hh with
      | nx ρ5 h5 => rw [qo] at q; exact fun σ6 H6 G6 μ6 l6 t6 er6 => ⟨G6, μ6, h5, ρ5, t6, er6, EndQ.on l6 q⟩
      | ct ρ5 h5 => rw [qo] at q; exact q
      | ret d h5 => rw [qo] at q; exact q
      | exc c z h5 => rw [qo] at q; exact q
      | bad => rw [qo] at q; exact q
  | .fz i r, st, g, h => by
    simp only [okZs] at h
    refine PSs.imp (snd_Zs r st g h) fun D σ H ⟨G, μ, hh, ρ, t, er, q⟩ => ?_
    simp only [exXs] at q
    cases e : getX ρ i with
    | none => rw [e] at q; exact q.elim
    | some x =>
      rw [e] at q
      simp only at q
      cases e1 : frz x hh with
      | none => rw [e1] at q; exact q.elim
      | some p =>
        obtain ⟨d, h'⟩ := p
        rw [e1] at q
        obtain ⟨v, e2, r2⟩ := er.get e
        obtain ⟨G', ⟨s1, t', _, _⟩, r'⟩ := frzA_ok 9 G hh x v d h' t r2 e1
        have l : Le G μ G' μ := ⟨s1, List.prefix_refl _⟩
        have er' := (er.mono l).set (.fz r') i
        have hs : σ.set i (some v) = σ := set_same e2
        rw [hs] at er'
        exact ⟨G', μ, h', _, t', er', EndQ.on l q⟩
end
end
end NW
end

section
set_option maxHeartbeats 8000000
/-! A def over cells as a whole; the law's end. -/
namespace NW
open PySem PySem.Spec PyProof.Rows L2
structure GwO (P : Program) (w : World) (K : PySem.W.Frag) (mg : Str → Option Value) (base : Heap) (T : Tx) (Pr : Pg) (S : List SigO) (Or : PgO) (n m : Nat) : Prop where
  gw : Gw P w K mg base T Pr n
  ofn : ∀ k sg, k < m → S[k]? = some sg → FnXO P w K mg base n sg (Or.F k)
  fld : ∀ c f, Or.fld c f = true → ∃ C, mg c = some (.ref C) ∧ Cls K C ∧ NoAttr K C f
theorem Ht.nil (K : PySem.W.Frag) (mg : Str → Option Value) (H : Hp) : Ht K mg H [] [] H := ⟨Same.refl H, rfl, .nil, fun a h => absurd h (by simp), fun n c e => by simp at e⟩
theorem EvR.start {K : PySem.W.Frag} {G : Hp} {μ : List Addr} {N : List Str} {vs : List V} {as : List AV} (r : AVRs K G μ vs as) (hn : vs.length ≤ N.length) : EvR K G μ (as.map some ++ List.replicate (N.length - as.length) none) (L2.start N vs) := by
  have hl := r.length
  refine ⟨by simp [L2.start, hl], fun i a e => ?_⟩
  by_cases hi : i < as.length
  · rw [List.getElem?_append_left (by rw [List.length_map]; exact hi), List.getElem?_map] at e
    cases q : as[i]? with
    | none => rw [q] at e; cases e
    | some b =>
      rw [q] at e
      cases e
      obtain ⟨v, h1, h2⟩ := r.get q
      refine ⟨v, ?_, h2⟩
      unfold L2.start
      rw [List.getElem?_append_left (by rw [List.length_map, hl]; exact hi), List.getElem?_map, h1]
      rfl
  · rw [List.getElem?_append_right (by rw [List.length_map]; omega), List.getElem?_replicate] at e
    split at e <;> cases e
theorem fn_okO {P : Program} {w : World} {K : PySem.W.Frag} {mg : Str → Option Value} {base : Heap} {x qual : Str} {params : Arguments} {body : List Stmt} {scope : Scope} {dvs : List V} {kws : List (Str × V)} {f : Addr} {fd : FuncData} {N ps : List Str} {T : Tx} {Pr : Pg} {S : List SigO} {Or : PgO} {n m : Nat} {sg : SigO} {F : List AV → Hc → RO AV} {ir : SXs}
    (D : FunD K x qual params body scope dvs kws f fd) (hs : FnScope N ps scope) (hp : ps.length = sg.ar) (hn : ps.length ≤ N.length) (hk : okZs (T.at_ sg.cl) S n m N scope ir body = true)
    (hF : ∀ as h, as.length = sg.ar → F as h ≠ .bad → runX Pr Or N.length ir as h = F as h) (g : GwO P w K mg base T Pr S Or n m) :
    FnOk P w K mg base (CXB sg.cl P w) (n + 1) f fd ps (spO K mg sg F) := by
  refine D.ok hs (fun vs H Q E ⟨G, μ, h, as, h1, h2, h3, h4⟩ => by rw [h2, hp]) (fun cdv A outer s H vs Q E hr ⟨G, μ, h, as, h1, h2, h3, h4⟩ => ?_)
  have tk : ∀ b : Bool, TkB b (cxOf (CXB b P w) P w K mg base N qual scope f cdv A outer s H E) (fun cls d _ H => E cls d H) := fun b => by
    cases b
    · exact takes_of rfl rfl rfl rfl
    · exact L2N.takes_of rfl rfl rfl rfl
  have gs : Gs (cxOf (CXB sg.cl P w) P w K mg base N qual scope f cdv A outer s H E) (T.at_ sg.cl) Pr n (fun cls d _ H => E cls d H) :=
    ⟨⟨rfl, hs.nd, hr, tk sg.cl, g.gw.fns, g.gw.cons, g.gw.blt, g.gw.exs, g.gw.exm, g.gw.iss, g.gw.exr⟩, passes_of rfl, fun _ => rfl, hs.kind, rfl, rfl⟩
  have gso : GsO (cxOf (CXB sg.cl P w) P w K mg base N qual scope f cdv A outer s H E) (T.at_ sg.cl) Pr S Or n m (fun cls d _ H => E cls d H) := ⟨gs, g.ofn, g.fld⟩
  refine ⟨tQ _ _ (exXs Pr Or ir), snd_Zs ir body gso hk, G, μ, h, _, h1, EvR.start h3 (by rw [h2, ← hp]; exact hn), ?_⟩
  have hl : as.length = sg.ar := by rw [← h3.length]; exact h2
  have e : runX Pr Or N.length ir as h = F as h := hF as h hl (fun z => by rw [z] at h4; exact h4)
  rw [← e] at h4
  unfold runX at h4
  cases q : exXs Pr Or ir (as.map some ++ List.replicate (N.length - as.length) none) h with
  | nx ρ h' => rw [q] at h4; exact fun σ H' G' μ' l t er => h4 .non H' G' μ' l t (.fz .non)
  | ct ρ h' => rw [q] at h4; exact h4.elim
  | ret d h' => rw [q] at h4; exact fun v H' G' μ' l t r => h4 v H' G' μ' l t r
  | exc c z h' => rw [q] at h4; exact fun cls dx σ H' G' μ' l t r => h4 cls dx H' G' μ' l t r
  | bad => rw [q] at h4; exact h4.elim
def PgO.add (Or : PgO) (n : Nat) (F : List AV → Hc → RO AV) : PgO := ⟨fun k => if k = n then F else Or.F k, Or.fld⟩
theorem FnXO.up {P : Program} {w : World} {K : PySem.W.Frag} {mg : Str → Option Value} {base : Heap} {n : Nat} {sg : SigO} {F : List AV → Hc → RO AV} (h : FnXO P w K mg base n sg F) : FnXO P w K mg base (n + 1) sg F := by
  unfold FnXO at h ⊢
  cases q : sg.cls with
  | none =>
    rw [q] at h
    obtain ⟨f', fd', ps', ds', dvs', sp', h1, h2, h3, h4, h5, h6⟩ := h
    exact ⟨f', fd', ps', ds', dvs', sp', h1, h2, FnOk.up h3 (Nat.le_succ n), h4, h5, h6⟩
  | some v =>
    rw [q] at h
    obtain ⟨C, f', fd', ps', g', gV', sp', h1, h2, h3, h4, h5, h6⟩ := h
    exact ⟨C, f', fd', ps', g', gV', sp', h1, h2, FnOk.up h3 (Nat.le_succ n), h4, h5, h6⟩
theorem Gw.upN {P : Program} {w : World} {K : PySem.W.Frag} {mg : Str → Option Value} {base : Heap} {T : Tx} {Pr : Pg} {n : Nat} (g : Gw P w K mg base T Pr n) (h : T.fns[n]? = none) : Gw P w K mg base T Pr (n + 1) := by
  refine ⟨fun k sg hk e => ?_, g.cons, g.blt, g.exs, g.exm, g.iss, g.exr⟩
  have hk' : k < n := by
    rcases Nat.lt_succ_iff_lt_or_eq.mp hk with z | z
    · exact z
    · subst z; rw [h] at e; cases e
  exact (g.fns k sg hk' e).up
theorem GwO.start {P : Program} {w : World} {K : PySem.W.Frag} {mg : Str → Option Value} {base : Heap} {T : Tx} {Pr : Pg} {n : Nat} (g : Gw P w K mg base T Pr n) (S : List SigO) : GwO P w K mg base T Pr S ⟨fun _ _ _ => .bad, fun _ _ => false⟩ n 0 :=
  ⟨g, fun k sg h => absurd h (Nat.not_lt_zero k), fun c f h => by cases h⟩
theorem GwO.add {P : Program} {w : World} {K : PySem.W.Frag} {mg : Str → Option Value} {base : Heap} {T : Tx} {Pr : Pg} {S : List SigO} {Or : PgO} {n m : Nat} {sg : SigO} {F : List AV → Hc → RO AV} (g : GwO P w K mg base T Pr S Or n m) (hT : T.fns[n]? = none) (hS : S[m]? = some sg) (h : FnXO P w K mg base (n + 1) sg F) :
    GwO P w K mg base T Pr S (Or.add m F) (n + 1) (m + 1) := by
  refine ⟨g.gw.upN hT, fun k sg' hk' hs' => ?_, g.fld⟩
  by_cases hk : k = m
  · subst hk
    rw [hS] at hs'
    cases hs'
    have e : (Or.add k F).F k = F := if_pos rfl
    rw [e]
    exact h
  · have e : (Or.add m F).F k = Or.F k := if_neg hk
    rw [e]
    exact (g.ofn k sg' (by omega) hs').up
theorem GwO.next {P : Program} {w : World} {K : PySem.W.Frag} {mg : Str → Option Value} {base : Heap} {x qual : Str} {params : Arguments} {body : List Stmt} {scope : Scope} {kws : List (Str × V)} {f : Addr} {fd : FuncData} {N ps : List Str} {T : Tx} {Pr : Pg} {S : List SigO} {Or : PgO} {n m : Nat} {sg : SigO} {F : List AV → Hc → RO AV} {ir : SXs}
    (g : GwO P w K mg base T Pr S Or n m) (hT : T.fns[n]? = none) (hS : S[m]? = some sg) (D : FunD K x qual params body scope [] kws f fd) (hg : mg sg.nm = some (.ref f)) (hs : FnScope N ps scope) (hp : ps.length = sg.ar) (hn : ps.length ≤ N.length) (hk : okZs (T.at_ sg.cl) S n m N scope ir body = true)
    (hF : ∀ as h, as.length = sg.ar → F as h ≠ .bad → runX Pr Or N.length ir as h = F as h)
    (hb : ∀ (kV doc pm : Value) (an : Option Addr) (cdv ct : Value) (us : List Value), us.length = ps.length → bindArgs (PySem.W.fnOf x qual params body scope Value.none kV doc pm an cdv ct) { pos := us } = pure (ps.zip us)) (hc : sg.cls = none := by rfl) :
    GwO P w K mg base T Pr S (Or.add m F) (n + 1) (m + 1) := by
  refine g.add hT hS ?_
  unfold FnXO
  rw [hc]
  exact ⟨f, fd, ps, [], [], _, hg, D.kp, fn_okO D hs hp hn hk hF g, D.bindsN hb, .nil, fun vs H Q E q => by rw [List.append_nil]; exact q⟩
theorem law_FO {P : Program} {w : World} {K : PySem.W.Frag} {mg : Str → Option Value} {base : Heap} {x qual : Str} {params : Arguments} {body : List Stmt} {scope : Scope} {kws : List (Str × V)} {f : Addr} {fd : FuncData} {N ps : List Str} {T : Tx} {Pr : Pg} {S : List SigO} {Or : PgO} {n m : Nat} {sg : SigO} {F : List AV → Hc → RO AV} {ir : SXs}
    (g : GwO P w K mg base T Pr S Or n m) (D : FunD K x qual params body scope [] kws f fd) (hs : FnScope N ps scope) (hp : ps.length = sg.ar) (hn : ps.length ≤ N.length) (hk : okZs (T.at_ sg.cl) S n m N scope ir body = true)
    (hF : ∀ as h, as.length = sg.ar → F as h ≠ .bad → runX Pr Or N.length ir as h = F as h) (hcl : sg.cl = false := by rfl) : FnOk P w K mg base (L2.CX P w) (n + 1) f fd ps (spO K mg sg F) := by
  have z := fn_okO D hs hp hn hk hF g
  rw [hcl] at z
  exact z
theorem law_spO {K : PySem.W.Frag} {mg : Str → Option Value} {nm : Str} {cl : Bool} {F : List AV → Hc → RO AV} {H : Hp} {a : Addr} {ns : List Int} (h : ∃ h', F [.fz (.list (ns.map .int))] [] = .ok (.fz (.bool true)) h') (hS : SqL K H a (ns.map V.int)) :
    spO K mg ⟨nm, 1, none, cl⟩ F [.ref a] H (fun v _ => v = .bl true) (fun _ _ _ => False) := by
  have r : Rep K H (.ref a) (.list (ns.map .int)) := .lst hS (reps_ints ns)
  obtain ⟨h', e⟩ := h
  refine ⟨H, [], [], [.fz (.list (ns.map .int))], Ht.nil K mg H, rfl, .cons (.fz r) .nil, ?_⟩
  rw [e]
  intro v H' G' μ' l t r
  cases r with
  | fz r => cases r; rfl
end NW
end

section
set_option maxHeartbeats 4000000
/-! Steps and loop rules over cells, for simp. -/
namespace NW
open PySem PySem.Spec PyProof.Rows L2
/-! no step has a binder: what follows is told by constants -/
section
variable (P : Pg) (O : PgO) (ρ : Ex) (h : Hc) (a b c : XE) (es : XEs) {α β : Type}
def bx1 (k : α → Hc → RO β) (r : RO α) : RO β := r.bnd k
@[simp] theorem bx1_ok (k : α → Hc → RO β) (x : α) : bx1 k (.ok x h) = k x h := nrfl rfl
@[simp] theorem bx1_x (k : α → Hc → RO β) (c : Str) (d : Option Dat) : bx1 k (.exc c d h) = .exc c d h := nrfl rfl
@[simp] theorem bx1_bad (k : α → Hc → RO β) : bx1 k .bad = .bad := nrfl rfl
def bx2 (k : AV → AV → Hc → RO β) (P : Pg) (O : PgO) (b : XE) (ρ : Ex) (r : RO AV) : RO β := r.bnd fun x h => bx1 (k x) (xv P O b ρ h)
@[simp] theorem bx2_ok (k : AV → AV → Hc → RO β) (x : AV) : bx2 k P O b ρ (.ok x h) = bx1 (k x) (xv P O b ρ h) := nrfl rfl
@[simp] theorem bx2_x (k : AV → AV → Hc → RO β) (c : Str) (d : Option Dat) : bx2 k P O b ρ (.exc c d h) = .exc c d h := nrfl rfl
def bx3 (k : AV → AV → AV → Hc → RO β) (P : Pg) (O : PgO) (b c : XE) (ρ : Ex) (r : RO AV) : RO β := r.bnd fun x h => bx2 (k x) P O c ρ (xv P O b ρ h)
@[simp] theorem bx3_ok (k : AV → AV → AV → Hc → RO β) (x : AV) : bx3 k P O b c ρ (.ok x h) = bx2 (k x) P O c ρ (xv P O b ρ h) := nrfl rfl
@[simp] theorem bx3_x (k : AV → AV → AV → Hc → RO β) (e : Str) (d : Option Dat) : bx3 k P O b c ρ (.exc e d h) = .exc e d h := nrfl rfl
def pR (r : Res Dat) (h : Hc) : RO AV := (lft r h).bnd fun d h => .ok (.fz d) h
@[simp] theorem pR_ok (d : Dat) : pR (.ok d) h = .ok (.fz d) h := nrfl rfl
@[simp] theorem pR_x (c : Str) (x : Option Dat) : pR (.exc c x) h = .exc c x h := nrfl rfl
def tRk (r : Res Dat) (h : Hc) : RO AV := (lft r h).bnd trk
@[simp] theorem tRk_ok (ds : List Dat) : tRk (.ok (.list ds)) h = .ok (.loc h.length) (h ++ [.lst (ds.map .fz)]) := nrfl rfl
def vR (o : Option AV) (h : Hc) : RO AV := match o with
    | some a => .ok a h
    | none => .bad
@[simp] theorem vR_some (a : AV) : vR (some a) h = .ok a h := nrfl rfl
@[simp] theorem xv_p (e : E) : xv P O (.p e) ρ h = pR (ev P e (prE h ρ)) h := by simp only [xv]; rfl
@[simp] theorem xv_t (e : E) : xv P O (.t e) ρ h = tRk (ev P e (prE h ρ)) h := by simp only [xv]; rfl
@[simp] theorem xv_v (i : Nat) : xv P O (.v i) ρ h = vR (getX ρ i) h := by simp only [xv]; rfl
def tupK (as : List AV) (h : Hc) : RO AV := if as.length ≤ 1000000 then .ok (mkT as) h else .bad
def lstK (as : List AV) (h : Hc) : RO AV := if as.length ≤ 1000000 then .ok (.loc h.length) (h ++ [.lst as]) else .bad
def lszK (as : List AV) (h : Hc) : RO AV := if as.length ≤ 1000000 then (match fzs as with
    | some ds => .ok (.fz (.list ds)) h
    | none => .bad) else .bad
@[simp] theorem xv_tup : xv P O (.tup es) ρ h = bx1 tupK (xvs P O es ρ h) := by simp only [xv]; rfl
@[simp] theorem xv_lst : xv P O (.lst es) ρ h = bx1 lstK (xvs P O es ρ h) := by simp only [xv]; rfl
@[simp] theorem xv_lsz : xv P O (.lsz es) ρ h = bx1 lszK (xvs P O es ρ h) := by simp only [xv]; rfl
@[simp] theorem xv_dc0 : xv P O .dc0 ρ h = .ok (.loc h.length) (h ++ [.dct []]) := by simp only [xv]
def fldR (O : PgO) (f : Str) (x : AV) (h : Hc) : RO AV := match x with
    | .loc n => (match h[n]? with
      | some (.obj c fs) => if O.fld c f then (match lkA fs f with
        | some y => .ok y h
        | none => .bad) else .bad
      | _ => .bad)
    | _ => .bad
@[simp] theorem xv_fld (f : Str) : xv P O (.fld a f) ρ h = bx1 (fldR O f) (xv P O a ρ h) := by simp only [xv]; rfl
@[simp] theorem xv_ix : xv P O (.ix a b) ρ h = bx2 ixA P O b ρ (xv P O a ρ h) := by simp only [xv]; rfl
@[simp] theorem xv_dix : xv P O (.dix a b) ρ h = bx2 dixA P O b ρ (xv P O a ρ h) := by simp only [xv]; rfl
@[simp] theorem xv_bin (o : Bop) : xv P O (.bin o a b) ρ h = bx2 (binA o) P O b ρ (xv P O a ρ h) := by simp only [xv]; rfl
def blK (r : RO Bool) : RO AV := r.bnd fun r h => .ok (.fz (.bool r)) h
@[simp] theorem blK_ok (r : Bool) : blK (.ok r h) = .ok (.fz (.bool r)) h := nrfl rfl
def cmpK (o : Cop) (x y : AV) (h : Hc) : RO AV := blK (cmpA o x y h)
@[simp] theorem xv_cmp (o : Cop) : xv P O (.cmp o a b) ρ h = bx2 (cmpK o) P O b ρ (xv P O a ρ h) := by simp only [xv]; rfl
def negB (n : Bool) (r : Bool) : Bool := match n with
  | true => !r
  | false => r
@[simp] theorem negB_t (r : Bool) : negB true r = !r := nrfl rfl
@[simp] theorem negB_f (r : Bool) : negB false r = r := nrfl rfl
def blN (n : Bool) (r : RO Bool) : RO AV := r.bnd fun r h => .ok (.fz (.bool (negB n r))) h
@[simp] theorem blN_ok (n r : Bool) : blN n (.ok r h) = .ok (.fz (.bool (negB n r))) h := nrfl rfl
def dinK (n : Bool) (x y : AV) (h : Hc) : RO AV := blN n (dinA x y h)
@[simp] theorem xv_din (neg : Bool) : xv P O (.din neg a b) ρ h = bx2 (dinK neg) P O b ρ (xv P O a ρ h) := by
  simp only [xv]
  cases neg <;> rfl
/-- a value's truth -/
def truK (x : AV) (h : Hc) : RO Bool := lft (truA h x) h
def notK (r : RO Bool) : RO AV := r.bnd fun r h => .ok (.fz (.bool (!r))) h
@[simp] theorem notK_ok (r : Bool) : notK (.ok r h) = .ok (.fz (.bool (!r))) h := nrfl rfl
def notX (x : AV) (h : Hc) : RO AV := notK (truK x h)
@[simp] theorem xv_not : xv P O (.not a) ρ h = bx1 notX (xv P O a ρ h) := by simp only [xv]; rfl
def andK (P : Pg) (O : PgO) (b : XE) (ρ : Ex) (x : AV) (r : RO Bool) : RO AV := r.bnd fun r h => match r with
    | true => xv P O b ρ h
    | false => .ok x h
@[simp] theorem andK_t (x : AV) : andK P O b ρ x (.ok true h) = xv P O b ρ h := nrfl rfl
@[simp] theorem andK_f (x : AV) : andK P O b ρ x (.ok false h) = .ok x h := nrfl rfl
def andX (P : Pg) (O : PgO) (b : XE) (ρ : Ex) (x : AV) (h : Hc) : RO AV := andK P O b ρ x (truK x h)
@[simp] theorem xv_and : xv P O (.and a b) ρ h = bx1 (andX P O b ρ) (xv P O a ρ h) := by simp only [xv]; rfl
def orK (P : Pg) (O : PgO) (b : XE) (ρ : Ex) (x : AV) (r : RO Bool) : RO AV := r.bnd fun r h => match r with
    | true => .ok x h
    | false => xv P O b ρ h
@[simp] theorem orK_t (x : AV) : orK P O b ρ x (.ok true h) = .ok x h := nrfl rfl
@[simp] theorem orK_f (x : AV) : orK P O b ρ x (.ok false h) = xv P O b ρ h := nrfl rfl
def orX (P : Pg) (O : PgO) (b : XE) (ρ : Ex) (x : AV) (h : Hc) : RO AV := orK P O b ρ x (truK x h)
@[simp] theorem xv_or : xv P O (.or a b) ρ h = bx1 (orX P O b ρ) (xv P O a ρ h) := by simp only [xv]; rfl
def ifeK (P : Pg) (O : PgO) (a b : XE) (ρ : Ex) (r : RO Bool) : RO AV := r.bnd fun r h => match r with
    | true => xv P O a ρ h
    | false => xv P O b ρ h
@[simp] theorem ifeK_t : ifeK P O a b ρ (.ok true h) = xv P O a ρ h := nrfl rfl
@[simp] theorem ifeK_f : ifeK P O a b ρ (.ok false h) = xv P O b ρ h := nrfl rfl
@[simp] theorem truK_b (r : Bool) : truK (.fz (.bool r)) h = .ok r h := nrfl rfl
@[simp] theorem xv_ife : xv P O (.ife c a b) ρ h = ifeK P O a b ρ (bx1 truK (xv P O c ρ h)) := by
  simp only [xv]
  cases xv P O c ρ h <;> rfl
@[simp] theorem xv_cal (k : Nat) : xv P O (.cal k es) ρ h = bx1 (O.F k) (xvs P O es ρ h) := by simp only [xv]; rfl
def calfR (F : List Dat → Res Dat) (ws : List Bool) (as : List AV) (h : Hc) : RO AV := match flW h ws as with
    | some ds => pR (F ds) h
    | none => .bad
def caldR (F : List Dat → Res Dat) (as : List AV) (h : Hc) : RO AV := match rdAll h as with
    | some ds => lfR (lft (F ds) h)
    | none => .bad
def caltK (r : Res Dat) (h : Hc) : RO AV := match r with
      | .ok d => trkD d h
      | .exc c none => .exc c none h
      | _ => .bad
@[simp] theorem caltK_ok (d : Dat) : caltK (.ok d) h = trkD d h := nrfl rfl
def caltR (F : List Dat → Res Dat) (as : List AV) (h : Hc) : RO AV := match rdAll h as with
    | some ds => caltK (F ds) h
    | none => .bad
theorem calfR_some (F : List Dat → Res Dat) (ws : List Bool) {as : List AV} {ds : List Dat} (e : flW h ws as = some ds) : calfR F ws as h = pR (F ds) h := by unfold calfR; rw [e]
theorem caldR_some (F : List Dat → Res Dat) {as : List AV} {ds : List Dat} {d : Dat} (e : rdAll h as = some ds) (f : F ds = .ok d) (l : lfree d = true) : caldR F as h = .ok (.fz d) h := by
  unfold caldR; rw [e]; simp only [f, lft_ok, lfR, l, if_true]
theorem caltR_some (F : List Dat → Res Dat) {as : List AV} {ds : List Dat} (e : rdAll h as = some ds) : caltR F as h = caltK (F ds) h := by unfold caltR; rw [e]
@[simp] theorem xv_calf (k : Nat) (ws : List Bool) : xv P O (.calf k ws es) ρ h = bx1 (calfR (P.F k) ws) (xvs P O es ρ h) := by simp only [xv]; rfl
@[simp] theorem xv_cald (k : Nat) : xv P O (.cald k es) ρ h = bx1 (caldR (P.F k)) (xvs P O es ρ h) := by simp only [xv]; rfl
@[simp] theorem xv_calt (k : Nat) : xv P O (.calt k es) ρ h = bx1 (caltR (P.F k)) (xvs P O es ρ h) := by
  simp only [xv]
  rfl
def biX (f : Bi) (as : List AV) (h : Hc) : RO AV := match flL h as with
    | some ds => pR (biD f ds) h
    | none => .bad
@[simp] theorem xv_bi (f : Bi) : xv P O (.bi f es) ρ h = bx1 (biX f) (xvs P O es ρ h) := by simp only [xv]; rfl
@[simp] theorem xv_len : xv P O (.len a) ρ h = bx1 lenA (xv P O a ρ h) := by simp only [xv]; rfl
def isiX (t : Ty) (x : AV) (h : Hc) : RO AV := match rd h x with
    | some d => blK (lft (isiD t d) h)
    | none => .bad
@[simp] theorem xv_isi (t : Ty) : xv P O (.isi t a) ρ h = bx1 (isiX t) (xv P O a ρ h) := by simp only [xv]; rfl
@[simp] theorem xv_m0 (m : MO0) : xv P O (.m0 m a) ρ h = bx1 (m0A m) (xv P O a ρ h) := by simp only [xv]; rfl
def chk (t : Bool) (r : RO AV) : RO AV := match t with
  | true => r
  | false => .bad
@[simp] theorem chk_t (r : RO AV) : chk true r = r := nrfl rfl
def m1K (m : MO1) (P : Pg) (O : PgO) (b : XE) (ρ : Ex) (x : AV) (h : Hc) : RO AV := chk (recv m h x) (bx1 (m1A m x) (xv P O b ρ h))
@[simp] theorem xv_m1 (m : MO1) : xv P O (.m1 m a b) ρ h = bx1 (m1K m P O b ρ) (xv P O a ρ h) := by
  simp only [xv]
  unfold bx1
  congr
  funext x h
  unfold m1K
  cases recv m h x <;> rfl
def m2K (k : AV → AV → AV → Hc → RO AV) (P : Pg) (O : PgO) (b c : XE) (ρ : Ex) (x : AV) (h : Hc) : RO AV := chk (isDA h x) (bx2 (k x) P O c ρ (xv P O b ρ h))
@[simp] theorem xv_m2 (m : MO2) : xv P O (.m2 m a b c) ρ h = bx1 (m2K (m2A m) P O b c ρ) (xv P O a ρ h) := by
  simp only [xv]
  unfold bx1
  congr
  funext x h
  unfold m2K
  cases isDA h x <;> rfl
@[simp] theorem xv_dget : xv P O (.dget a b c) ρ h = bx1 (m2K dgetA P O b c ρ) (xv P O a ρ h) := by
  simp only [xv]
  unfold bx1
  congr
  funext x h
  unfold m2K
  cases isDA h x <;> rfl
def frzK (o : Option (Dat × Hc)) : RO AV := match o with
    | some (d, h') => .ok (.fz d) h'
    | none => .bad
@[simp] theorem frzK_some (d : Dat) : frzK (some (d, h)) = .ok (.fz d) h := nrfl rfl
def frzR (x : AV) (h : Hc) : RO AV := frzK (frz x h)
@[simp] theorem xv_frz : xv P O (.frz a) ρ h = bx1 frzR (xv P O a ρ h) := by simp only [xv]; rfl
@[simp] theorem xvs_nil : xvs P O .nil ρ h = .ok [] h := by simp only [xvs]
def cons2 (x : AV) (r : RO (List AV)) : RO (List AV) := r.bnd fun xs h => .ok (x :: xs) h
@[simp] theorem cons2_ok (x : AV) (xs : List AV) : cons2 x (.ok xs h) = .ok (x :: xs) h := nrfl rfl
@[simp] theorem cons2_x (x : AV) (c : Str) (d : Option Dat) : cons2 x (.exc c d h) = .exc c d h := nrfl rfl
def consX (P : Pg) (O : PgO) (es : XEs) (ρ : Ex) (r : RO AV) : RO (List AV) := r.bnd fun x h => cons2 x (xvs P O es ρ h)
@[simp] theorem consX_ok (x : AV) : consX P O es ρ (.ok x h) = cons2 x (xvs P O es ρ h) := nrfl rfl
@[simp] theorem consX_x (c : Str) (d : Option Dat) : consX P O es ρ (.exc c d h) = .exc c d h := nrfl rfl
@[simp] theorem xvs_cons : xvs P O (.cons a es) ρ h = consX P O es ρ (xv P O a ρ h) := by simp only [xvs]; rfl
/-! statements -/
def ofX (k : α → Hc → OX) (r : RO α) : OX := OX.of r k
@[simp] theorem ofX_ok (k : α → Hc → OX) (x : α) : ofX k (.ok x h) = k x h := nrfl rfl
@[simp] theorem ofX_x (k : α → Hc → OX) (c : Str) (d : Option Dat) : ofX k (.exc c d h) = .exc c d h := nrfl rfl
def setK (ρ : Ex) (i : Nat) (x : AV) (h : Hc) : OX := .nx (ρ.set i (some x)) h
@[simp] theorem setK_eq (i : Nat) (x : AV) : setK ρ i x h = .nx (ρ.set i (some x)) h := nrfl rfl
@[simp] theorem exX_set (i : Nat) : exX P O (.set i a) ρ h = ofX (setK ρ i) (xv P O a ρ h) := by simp only [exX]; rfl
def tupX (is : List Nat) (ρ : Ex) (x : AV) (h : Hc) : OX := match setX h (.tp is) x ρ with
    | some ρ => .nx ρ h
    | none => .bad
theorem tupX_some {is : List Nat} {x : AV} {ρ' : Ex} (e : setX h (.tp is) x ρ = some ρ') : tupX is ρ x h = .nx ρ' h := by unfold tupX; rw [e]
@[simp] theorem exX_tup (is : List Nat) : exX P O (.tup is a) ρ h = ofX (tupX is ρ) (xv P O a ρ h) := by simp only [exX]; rfl
def dropXx (ρ : Ex) (_ : AV) (h : Hc) : OX := .nx ρ h
@[simp] theorem dropXx_eq (x : AV) : dropXx ρ x h = .nx ρ h := nrfl rfl
@[simp] theorem exX_expr : exX P O (.expr a) ρ h = ofX (dropXx ρ) (xv P O a ρ h) := by simp only [exX]; rfl
def optN (ρ : Ex) (o : Option Hc) : OX := match o with
  | some h => .nx ρ h
  | none => .bad
@[simp] theorem optN_some (h : Hc) : optN ρ (some h) = .nx ρ h := nrfl rfl
def st2 (P : Pg) (O : PgO) (i : XE) (f : AV → AV → AV → Hc → Option Hc) (ρ : Ex) (y x : AV) (h : Hc) : OX := OX.of (xv P O i ρ h) fun z h => optN ρ (f x z y h)
def st3 (f : AV → AV → AV → Hc → Option Hc) (ρ : Ex) (y x z : AV) (h : Hc) : OX := optN ρ (f x z y h)
@[simp] theorem st3_eq (f : AV → AV → AV → Hc → Option Hc) (y x z : AV) : st3 f ρ y x z h = optN ρ (f x z y h) := nrfl rfl
@[simp] theorem st2_eq (f : AV → AV → AV → Hc → Option Hc) (y x : AV) : st2 P O b f ρ y x h = ofX (st3 f ρ y x) (xv P O b ρ h) := nrfl rfl
def st1 (P : Pg) (O : PgO) (a i : XE) (f : AV → AV → AV → Hc → Option Hc) (ρ : Ex) (y : AV) (h : Hc) : OX := ofX (st2 P O i f ρ y) (xv P O a ρ h)
@[simp] theorem st1_eq (f : AV → AV → AV → Hc → Option Hc) (y : AV) : st1 P O a b f ρ y h = ofX (st2 P O b f ρ y) (xv P O a ρ h) := nrfl rfl
@[simp] theorem exX_seti : exX P O (.seti a b c) ρ h = ofX (st1 P O a b setiA ρ) (xv P O c ρ h) := by simp only [exX]; rfl
@[simp] theorem exX_setd : exX P O (.setd a b c) ρ h = ofX (st1 P O a b setdA ρ) (xv P O c ρ h) := by simp only [exX]; rfl
def ifK (P : Pg) (O : PgO) (p q : SXs) (ρ : Ex) (r : RO Bool) : OX := OX.of r fun r h => match r with
    | true => exXs P O p ρ h
    | false => exXs P O q ρ h
@[simp] theorem ifK_t (p q : SXs) : ifK P O p q ρ (.ok true h) = exXs P O p ρ h := nrfl rfl
@[simp] theorem ifK_f (p q : SXs) : ifK P O p q ρ (.ok false h) = exXs P O q ρ h := nrfl rfl
@[simp] theorem exX_ifs (p q : SXs) : exX P O (.ifs a p q) ρ h = ifK P O p q ρ (bx1 truK (xv P O a ρ h)) := by
  simp only [exX]
  rfl
theorem tstX_eq : tstX P O a ρ h = bx1 truK (xv P O a ρ h) := nrfl rfl
def retK (x : AV) (h : Hc) : OX := .ret x h
@[simp] theorem retK_eq (x : AV) : retK x h = .ret x h := nrfl rfl
@[simp] theorem exX_ret : exX P O (.ret a) ρ h = ofX retK (xv P O a ρ h) := by simp only [exX]; rfl
@[simp] theorem exX_retN : exX P O .retN ρ h = .ret (.fz .none) h := by simp only [exX]
@[simp] theorem exX_pass : exX P O .pass ρ h = .nx ρ h := by simp only [exX]
@[simp] theorem exX_cont : exX P O .cont ρ h = .ct ρ h := by simp only [exX]
@[simp] theorem exX_rais (c : Str) : exX P O (.rais c) ρ h = .exc c none h := by simp only [exX]
@[simp] theorem exXs_nil : exXs P O .nil ρ h = .nx ρ h := by simp only [exXs]
def thnX (P : Pg) (O : PgO) (r : SXs) (o : OX) : OX := o.thn (exXs P O r)
@[simp] theorem thnX_nx (r : SXs) : thnX P O r (.nx ρ h) = exXs P O r ρ h := nrfl rfl
@[simp] theorem thnX_ct (r : SXs) : thnX P O r (.ct ρ h) = .ct ρ h := nrfl rfl
@[simp] theorem thnX_ret (r : SXs) (x : AV) : thnX P O r (.ret x h) = .ret x h := nrfl rfl
@[simp] theorem thnX_x (r : SXs) (e : Str) (d : Option Dat) : thnX P O r (.exc e d h) = .exc e d h := nrfl rfl
@[simp] theorem exXs_cons (s : SX) (r : SXs) : exXs P O (.cons s r) ρ h = thnX P O r (exX P O s ρ h) := by simp only [exXs]; rfl
def fzX (P : Pg) (O : PgO) (i : Nat) (r : SXs) (ρ : Ex) (h : Hc) : OX := match getX ρ i with
    | some x => (match frz x h with
      | some (d, h') => exXs P O r (ρ.set i (some (.fz d))) h'
      | none => .bad)
    | none => .bad
theorem fzX_some {i : Nat} {r : SXs} {x : AV} {d : Dat} {h' : Hc} (e1 : getX ρ i = some x) (e2 : frz x h = some (d, h')) : fzX P O i r ρ h = exXs P O r (ρ.set i (some (.fz d))) h' := by
  unfold fzX; rw [e1]; simp only [e2]
@[simp] theorem exXs_fz (i : Nat) (r : SXs) : exXs P O (.fz i r) ρ h = fzX P O i r ρ h := by simp only [exXs]; rfl
theorem runX_ret {n : Nat} {body : SXs} {as : List AV} {a : AV} {h' : Hc} (e : exXs P O body (as.map some ++ List.replicate (n - as.length) none) h = .ret a h') : runX P O n body as h = .ok a h' := by
  unfold runX; rw [e]
theorem runX_nx {n : Nat} {body : SXs} {as : List AV} {ρ' : Ex} {h' : Hc} (e : exXs P O body (as.map some ++ List.replicate (n - as.length) none) h = .nx ρ' h') : runX P O n body as h = .ok (.fz .none) h' := by
  unfold runX; rw [e]
end
/-! ### loops -/
section
variable {P : Pg} {O : PgO} {tmp : List Nat} {tg : Tg} {it : It} {body : SXs} {ρ : Ex} {h : Hc} {Q : OX → Prop}
theorem xfor_rule {α : Type} (e : α → Dat) (J : List α → Ex → Hc → Prop) (xs : List α) (hi : evI P it (prE h ρ) = .ok (xs.map e)) (h0 : J xs (unX tmp ρ) h) (hn : ∀ ρ h, J [] ρ h → Q (.nx ρ h))
    (hs : ∀ x rest ρ h, J (x :: rest) ρ h → ∃ ρ1, setX h tg (.fz (e x)) ρ = some ρ1 ∧ match exXs P O body ρ1 h with
      | .nx ρ' h' => J rest (unX tmp ρ') h'
      | .ct ρ' h' => J rest (unX tmp ρ') h'
      | o => Q o) : Q (exX P O (.for_ tmp tg (.p it) body) ρ h) := by
  simp only [exX, hi, lft_ok, bnd_ok, ox_ok]
  clear hi
  induction xs generalizing ρ h with
  | nil => simp only [List.map_nil, forX]; exact hn _ _ h0
  | cons x xs ih =>
    simp only [List.map_cons, forX]
    obtain ⟨ρ1, e1, e2⟩ := hs x xs _ _ h0
    rw [e1]
    simp only
    cases q : exXs P O body ρ1 h with
    | nx ρ' h' => rw [q] at e2; exact ih e2
    | ct ρ' h' => rw [q] at e2; exact ih e2
    | ret a h' => rw [q] at e2; exact e2
    | exc c z h' => rw [q] at e2; exact e2
    | bad => rw [q] at e2; exact e2
theorem big_pos : ∃ n, bigN = n + 1000 := ⟨999000, by unfold bigN; rfl⟩
/-- a loop over the list at n, which stays -/
theorem xforV_rule {e : XE} {n : Nat} (J : List AV → Ex → Hc → Prop) (xs : List AV) (he : xv P O e ρ h = .ok (.loc n) h) (hl : xs.length < 1000) (h0 : J xs (unX tmp ρ) h) (hc : ∀ r ρ h, J r ρ h → h[n]? = some (.lst xs)) (hn : ∀ ρ h, J [] ρ h → Q (.nx ρ h))
    (hs : ∀ x rest ρ h, J (x :: rest) ρ h → ∃ ρ1, setX h tg x ρ = some ρ1 ∧ match exXs P O body ρ1 h with
      | .nx ρ' h' => J rest (unX tmp ρ') h'
      | .ct ρ' h' => J rest (unX tmp ρ') h'
      | o => Q o) : Q (exX P O (.for_ tmp tg (.x e) body) ρ h) := by
  simp only [exX, he, ox_ok]
  obtain ⟨k, hk⟩ := big_pos
  have key : ∀ (r : List AV) (c i : Nat) (ρ : Ex) (h : Hc), i + r.length = xs.length → xs.drop i = r → r.length < c → J r (unX tmp ρ) h → Q (forV n tmp (fun x ρ h => match setX h tg x ρ with
      | some ρ => exXs P O body ρ h
      | none => .bad) c i ρ h) := by
    intro r
    induction r with
    | nil =>
      intro c i ρ h hl hd hc' hj
      cases c with
      | zero => omega
      | succ c =>
        simp only [forV, hc _ _ _ hj]
        have : xs[i]? = none := by
          rw [List.getElem?_eq_none_iff]
          simp at hl
          omega
        rw [this]
        exact hn _ _ hj
    | cons x r ih =>
      intro c i ρ h hl hd hc' hj
      cases c with
      | zero => simp at hc'
      | succ c =>
        simp only [forV, hc _ _ _ hj]
        have hi : i < xs.length := by simp at hl; omega
        have hx : xs[i]? = some x := by
          have : (xs.drop i)[0]? = some x := by rw [hd]; rfl
          simpa using this
        rw [hx]
        simp only
        obtain ⟨ρ1, e1, e2⟩ := hs x r _ _ hj
        rw [e1]
        simp only
        have hd' : xs.drop (i + 1) = r := by
          rw [← List.drop_drop, hd]; rfl
        cases q : exXs P O body ρ1 h with
        | nx ρ' h' => rw [q] at e2; exact ih c (i + 1) ρ' h' (by simp at hl; omega) hd' (by simp at hc'; omega) e2
        | ct ρ' h' => rw [q] at e2; exact ih c (i + 1) ρ' h' (by simp at hl; omega) hd' (by simp at hc'; omega) e2
        | ret a h' => rw [q] at e2; exact e2
        | exc c z h' => rw [q] at e2; exact e2
        | bad => rw [q] at e2; exact e2
  exact key xs bigN 0 ρ h (by simp) (by simp) (by omega) h0
theorem xwhil_rule {fuel : Ex → Hc → Nat} {c : XE} (J : Nat → Ex → Hc → Prop) (m : Nat) (h0 : J m (unX tmp ρ) h) (hf : m < fuel ρ h)
    (hs : ∀ m ρ h, J m ρ h → ∃ b h1, tstX P O c ρ h = .ok b h1 ∧ if b = true then (match exXs P O body ρ h1 with
      | .nx ρ' h' => ∃ m', m' < m ∧ J m' (unX tmp ρ') h'
      | .ct ρ' h' => ∃ m', m' < m ∧ J m' (unX tmp ρ') h'
      | o => Q o) else Q (.nx ρ h1)) : Q (exX P O (.whil fuel tmp c body) ρ h) := by
  simp only [exX]
  generalize fuel ρ h = n at hf
  induction n generalizing m ρ h with
  | zero => omega
  | succ n ih =>
    simp only [whX]
    obtain ⟨b, h1, e1, e2⟩ := hs m _ _ h0
    rw [e1]
    simp only [ox_ok]
    cases b with
    | false => rw [if_neg Bool.false_ne_true] at e2; exact e2
    | true =>
      rw [if_pos rfl] at e2
      simp only
      cases q : exXs P O body (unX tmp ρ) h1 with
      | nx ρ' h' => rw [q] at e2; obtain ⟨m', hm, hj⟩ := e2; exact ih m' hj (by omega)
      | ct ρ' h' => rw [q] at e2; obtain ⟨m', hm, hj⟩ := e2; exact ih m' hj (by omega)
      | ret a h' => rw [q] at e2; exact e2
      | exc c z h' => rw [q] at e2; exact e2
      | bad => rw [q] at e2; exact e2
end
end NW
end

section
set_option maxHeartbeats 4000000
/-! More steps over cells: slots, readings, comprehensions. -/
namespace NW
open PySem PySem.Spec PyProof.Rows L2
@[simp] theorem prE_nil (h : Hc) : prE h [] = [] := nrfl rfl
@[simp] theorem prE_cons (h : Hc) (a : Option AV) (ρ : Ex) : prE h (a :: ρ) = prj h a :: prE h ρ := nrfl rfl
@[simp] theorem prj_fz (h : Hc) (d : Dat) : prj h (some (.fz d)) = .fz d := nrfl rfl
@[simp] theorem prj_un (h : Hc) : prj h none = .un := nrfl rfl
@[simp] theorem getX_zero (a : Option AV) (ρ : Ex) : getX (a :: ρ) 0 = a := nrfl rfl
@[simp] theorem getX_succ (a : Option AV) (ρ : Ex) (i : Nat) : getX (a :: ρ) (i + 1) = getX ρ i := nrfl rfl
@[simp] theorem unX_nil (ρ : Ex) : unX [] ρ = ρ := nrfl rfl
@[simp] theorem unX_cons (i : Nat) (is : List Nat) (ρ : Ex) : unX (i :: is) ρ = (unX is ρ).set i none := nrfl rfl
@[simp] theorem setX_nm (h : Hc) (i : Nat) (x : AV) (ρ : Ex) : setX h (.nm i) x ρ = some (ρ.set i (some x)) := nrfl rfl
@[simp] theorem ixA_fz (d e : Dat) (h : Hc) : ixA (.fz d) (.fz e) h = pR (ixD d e) h := nrfl rfl
@[simp] theorem ixA_tp (xs : List AV) (k : Int) (h : Hc) : ixA (.tp xs) (.fz (.int k)) h = vR (L2.atI xs k) h := by
  show (match L2.atI xs k with | some x => RO.ok x h | none => .bad) = _
  cases L2.atI xs k <;> rfl
theorem ixA_loc {n : Nat} {xs : List AV} {h : Hc} (e : h[n]? = some (.lst xs)) (k : Int) : ixA (.loc n) (.fz (.int k)) h = vR (L2.atI xs k) h := by
  simp only [ixA, e]
  cases L2.atI xs k <;> rfl
theorem lenA_loc {n : Nat} {xs : List AV} {h : Hc} (e : h[n]? = some (.lst xs)) : lenA (.loc n) h = .ok (.fz (.int xs.length)) h := by
  simp only [lenA, e]
theorem recv_loc {n : Nat} {xs : List AV} {h : Hc} (e : h[n]? = some (.lst xs)) : recv .append h (.loc n) = true := by
  simp only [recv, isLA, e]
theorem app_loc {n : Nat} {xs : List AV} {h : Hc} (e : h[n]? = some (.lst xs)) (hl : xs.length < 1000000) (b : AV) : m1A .append (.loc n) b h = .ok (.fz .none) (h.set n (.lst (xs ++ [b]))) := by
  simp only [m1A, e, hl, if_true]
theorem m1K_app {P : Pg} {O : PgO} {b : XE} {ρ : Ex} {n : Nat} {xs : List AV} {h : Hc} {v : AV} (e : h[n]? = some (.lst xs)) (hl : xs.length < 1000000) (q : xv P O b ρ h = .ok v h) : m1K .append P O b ρ (.loc n) h = .ok (.fz .none) (h.set n (.lst (xs ++ [v]))) := by
  simp only [m1K, recv_loc e, chk_t, q, bx1_ok, app_loc e hl]
@[simp] theorem truA_bl (h : Hc) (b : Bool) : truA h (.fz (.bool b)) = .ok b := nrfl rfl
section
variable (P : Pg) (O : PgO) (b : XE) (ρ : Ex) (h : Hc)
@[simp] theorem andX_b (r : Bool) : andX P O b ρ (.fz (.bool r)) h = andK P O b ρ (.fz (.bool r)) (.ok r h) := nrfl rfl
@[simp] theorem orX_b (r : Bool) : orX P O b ρ (.fz (.bool r)) h = orK P O b ρ (.fz (.bool r)) (.ok r h) := nrfl rfl
@[simp] theorem notX_b (r : Bool) : notX (.fz (.bool r)) h = .ok (.fz (.bool (!r))) h := nrfl rfl
end
theorem calD {F : List Dat → Res Dat} {as : List AV} {ds : List Dat} {d : Dat} {h : Hc} (e : rdAll h as = some ds) (f : F ds = .ok d) (l : lfree d = true) : caldR F as h = .ok (.fz d) h := by
  unfold caldR; rw [e]; simp only [f, lft_ok, lfR, l, if_true]
theorem calT {F : List Dat → Res Dat} {as : List AV} {ds : List Dat} {d : Dat} {h : Hc} (e : rdAll h as = some ds) (f : F ds = .ok d) : caltR F as h = trkD d h := by
  unfold caltR; rw [e]; simp only [f, caltK]
theorem rX_ret {P : Pg} {O : PgO} {n : Nat} {body : SXs} {as : List AV} {a : AV} {h h' : Hc} (e : exXs P O body (as.map some ++ List.replicate (n - as.length) none) h = .ret a h') : runX P O n body as h = .ok a h' := by
  unfold runX; rw [e]
theorem rX_nx {P : Pg} {O : PgO} {n : Nat} {body : SXs} {as : List AV} {ρ' : Ex} {h h' : Hc} (e : exXs P O body (as.map some ++ List.replicate (n - as.length) none) h = .nx ρ' h') : runX P O n body as h = .ok (.fz .none) h' := by
  unfold runX; rw [e]
theorem nodup_inj {α β : Type} (f : α → β) : ∀ {l : List α}, (l.map f).Nodup → ∀ {x y : α}, x ∈ l → y ∈ l → f x = f y → x = y
  | [], _, _, _, h, _, _ => by simp at h
  | a :: l, hn, x, y, hx, hy, e => by
    simp only [List.map_cons, List.nodup_cons] at hn
    rcases List.mem_cons.mp hx with h1 | h1
    · rcases List.mem_cons.mp hy with h2 | h2
      · rw [h1, h2]
      · refine absurd ?_ hn.1
        rw [← h1, e]
        exact List.mem_map_of_mem h2
    · rcases List.mem_cons.mp hy with h2 | h2
      · refine absurd ?_ hn.1
        rw [← h2, ← e]
        exact List.mem_map_of_mem h1
      · exact nodup_inj f hn.2 h1 h2 e
/-! readings -/
theorem rdL_map {α : Type} {f : AV → Option Dat} (a : α → AV) (d : α → Dat) : ∀ (xs : List α), (∀ x ∈ xs, f (a x) = some (d x)) → rdL f (xs.map a) = some (xs.map d)
  | [], _ => rfl
  | x :: xs, h => by
    simp only [List.map_cons, rdL, h x (by simp), rdL_map a d xs fun y hy => h y (by simp [hy])]
@[simp] theorem rdA_fz (h : Hc) (f : Nat) (d : Dat) : rdA h (f + 1) (.fz d) = some d := by simp only [rdA]
theorem rdL_fz (h : Hc) (f : Nat) (ds : List Dat) : rdL (rdA h (f + 1)) (ds.map .fz) = some ds := by
  have := rdL_map (f := rdA h (f + 1)) AV.fz id ds fun x _ => rdA_fz h f x
  simpa using this
theorem rdA_flat {h : Hc} {n : Nat} {ds : List Dat} (e : h[n]? = some (.lst (ds.map .fz))) (f : Nat) : rdA h (f + 2) (.loc n) = some (.list ds) := by
  simp only [rdA, e, rdL_fz, Option.map_some]
theorem rdA_lst {α : Type} {h : Hc} {n f : Nat} (a : α → AV) (d : α → Dat) {xs : List α} (e : h[n]? = some (.lst (xs.map a))) (q : ∀ x ∈ xs, rdA h f (a x) = some (d x)) : rdA h (f + 1) (.loc n) = some (.list (xs.map d)) := by
  simp only [rdA, e, rdL_map a d xs q, Option.map_some]
theorem rdA_tp {h : Hc} {f : Nat} {xs : List AV} {ds : List Dat} (q : rdL (rdA h f) xs = some ds) : rdA h (f + 1) (.tp xs) = some (.tuple ds) := by
  simp only [rdA, q, Option.map_some]
theorem rdA_dct {α : Type} {h : Hc} {n f : Nat} (k : α → Str) (a : α → AV) (d : α → Dat) {xs : List α} (e : h[n]? = some (.dct (xs.map fun x => (k x, a x)))) (q : ∀ x ∈ xs, rdA h f (a x) = some (d x)) : rdA h (f + 1) (.loc n) = some (.dict (xs.map fun x => (PyData.str (k x), d x))) := by
  have e2 := rdL_map a d xs q
  have e3 : (xs.map fun x => (k x, a x)).map (·.2) = xs.map a := by simp
  have e4 : ((xs.map fun x => (k x, a x)).map fun p => PyData.str p.1) = xs.map fun x => PyData.str (k x) := by simp
  simp only [rdA, e, e3, e2, e4, Option.map_some]
  rw [List.zip_map']
@[simp] theorem rdAll_nil (h : Hc) : rdAll h [] = some [] := nrfl rfl
theorem rdAll_cons {h : Hc} {x : AV} {xs : List AV} {d : Dat} {ds : List Dat} (e1 : rd h x = some d) (e2 : rdAll h xs = some ds) : rdAll h (x :: xs) = some (d :: ds) := by
  unfold rdAll at *
  simp only [rdL, e1, e2]
theorem rd_fz (h : Hc) (d : Dat) : rd h (.fz d) = some d := rdA_fz h 8 d
theorem rdAll_fz (h : Hc) (ds : List Dat) : rdAll h (ds.map .fz) = some ds := rdL_fz h 8 ds
theorem rdAll_z {h : Hc} {d : Dat} {xs : List AV} {ds : List Dat} (e2 : rdAll h xs = some ds) : rdAll h (.fz d :: xs) = some (d :: ds) := rdAll_cons (rd_fz h d) e2
/-! comparisons -/
theorem cmpAeq' {a b : AV} {h : Hc} {d e : Dat} {r : Bool} (e1 : rd h a = some d) (e2 : rd h b = some e) (q : cmpD .eq d e = .ok r) : cmpA .eq a b h = .ok r h := by
  simp only [cmpA, e1, e2]
  cases d <;> cases e <;> first | (simp only [q, lft_ok]; done) | (simp [cmpD, shOk, ndc] at q; done)
theorem cmpAne' {a b : AV} {h : Hc} {d e : Dat} {r : Bool} (e1 : rd h a = some d) (e2 : rd h b = some e) (q : cmpD .ne d e = .ok r) : cmpA .ne a b h = .ok r h := by
  simp only [cmpA, e1, e2]
  cases d <;> cases e <;> first | (simp only [q, lft_ok]; done) | (simp [cmpD, shOk, ndc] at q; done)
theorem cmpK_eq {a b : AV} {h : Hc} {d e : Dat} {r : Bool} (e1 : rd h a = some d) (e2 : rd h b = some e) (q : cmpD .eq d e = .ok r) : cmpK .eq a b h = .ok (.fz (.bool r)) h := by
  unfold cmpK; rw [cmpAeq' e1 e2 q]; rfl
theorem cmpK_ne {a b : AV} {h : Hc} {d e : Dat} {r : Bool} (e1 : rd h a = some d) (e2 : rd h b = some e) (q : cmpD .ne d e = .ok r) : cmpK .ne a b h = .ok (.fz (.bool r)) h := by
  unfold cmpK; rw [cmpAne' e1 e2 q]; rfl
@[simp] theorem cmpK_str (a b : Str) (h : Hc) : cmpK .eq (.fz (.str a)) (.fz (.str b)) h = .ok (.fz (.bool (decide (a = b)))) h := cmpK_eq (rd_fz _ _) (rd_fz _ _) (encS.eq (by decide) a b)
@[simp] theorem cmpK_strs (a b : List Str) (h : Hc) : cmpK .eq (.fz (.tuple (a.map .str))) (.fz (.tuple (b.map .str))) h = .ok (.fz (.bool (decide (a = b)))) h := cmpK_eq (rd_fz _ _) (rd_fz _ _) (encN.eq (by decide) a b)
@[simp] theorem cmpK_strsn (a b : List Str) (h : Hc) : cmpK .ne (.fz (.tuple (a.map .str))) (.fz (.tuple (b.map .str))) h = .ok (.fz (.bool (!decide (a = b)))) h := cmpK_ne (rd_fz _ _) (rd_fz _ _) (encN.ne (by decide) a b)
theorem cmpK_dne {a b : AV} {h : Hc} {ks ls : List (Dat × Dat)} (e1 : rd h a = some (.dict ks)) (e2 : rd h b = some (.dict ls)) (o1 : dOk ks = true) (o2 : dOk ls = true) : cmpK .ne a b h = .ok (.fz (.bool (!eqDct ks ls))) h := by
  simp only [cmpK, cmpA, e1, e2, cmpDD, o1, o2, Bool.and_self, if_true, lft_ok, blK_ok]
theorem cmpK_deq {a b : AV} {h : Hc} {ks ls : List (Dat × Dat)} (e1 : rd h a = some (.dict ks)) (e2 : rd h b = some (.dict ls)) (o1 : dOk ks = true) (o2 : dOk ls = true) : cmpK .eq a b h = .ok (.fz (.bool (eqDct ks ls))) h := by
  simp only [cmpK, cmpA, e1, e2, cmpDD, o1, o2, Bool.and_self, if_true, lft_ok, blK_ok]
/-! what is added behind -/
theorem pre_lst {h h' : Hc} (p : h <+: h') {n : Nat} {c : Cell} (e : h[n]? = some c) : h'[n]? = some c := by
  obtain ⟨t, rfl⟩ := p
  rw [List.getElem?_append_left (List.getElem?_eq_some_iff.mp e).1, e]
theorem pre_set {h h' : Hc} (p : h <+: h') {n : Nat} (hn : h.length ≤ n) (c : Cell) : h <+: h'.set n c := by
  obtain ⟨t, rfl⟩ := p
  rw [List.set_append_right _ _ hn]
  exact List.prefix_append _ _
theorem pre_app {h h' : Hc} (p : h <+: h') (t : Hc) : h <+: h' ++ t := p.trans (List.prefix_append _ _)
theorem rdL_mono {f g : AV → Option Dat} (hf : ∀ x d, f x = some d → g x = some d) : ∀ (xs : List AV) (ds : List Dat), rdL f xs = some ds → rdL g xs = some ds
  | [], ds, e => by simpa [rdL] using e
  | x :: xs, ds, e => by
    simp only [rdL] at e
    split at e
    · rename_i d es q1 q2
      cases e
      simp only [rdL, hf _ _ q1, rdL_mono hf _ _ q2]
    · cases e
theorem rdA_pre {h h' : Hc} (p : h <+: h') : ∀ (f : Nat) (x : AV) (d : Dat), rdA h f x = some d → rdA h' f x = some d
  | 0, _, _, e => by simp only [rdA] at e; cases e
  | f + 1, .fz d, _, e => by simpa only [rdA] using e
  | f + 1, .loc n, d, e => by
    simp only [rdA] at e
    split at e
    · rename_i xs q
      rw [Option.map_eq_some_iff] at e
      obtain ⟨ds, e1, e2⟩ := e
      simp only [rdA, pre_lst p q, rdL_mono (rdA_pre p f) _ _ e1, Option.map_some, e2]
    · rename_i kvs q
      rw [Option.map_eq_some_iff] at e
      obtain ⟨ds, e1, e2⟩ := e
      simp only [rdA, pre_lst p q, rdL_mono (rdA_pre p f) _ _ e1, Option.map_some, e2]
    · cases e
  | f + 1, .tp xs, d, e => by
    simp only [rdA] at e
    rw [Option.map_eq_some_iff] at e
    obtain ⟨ds, e1, e2⟩ := e
    simp only [rdA, rdL_mono (rdA_pre p f) _ _ e1, Option.map_some, e2]
theorem rd_pre {h h' : Hc} (p : h <+: h') {x : AV} {d : Dat} (e : rd h x = some d) : rd h' x = some d := rdA_pre p 9 x d e
/-! comprehensions that read only -/
section
variable {P : Pg} {O : PgO} {own : List Nat} {tg : Tg} {tt elt : XE} {ρ : Ex} {h : Hc} {α : Type}
theorem noXO_k {α : Type} (a : α) (h : Hc) : noXO (.ok a h) = .ok a h := nrfl rfl
theorem last_cell (h : Hc) (c : Cell) : (h ++ [c])[h.length]? = some c := by simp
theorem last_set (h : Hc) (c d : Cell) : (h ++ [c]).set h.length d = h ++ [d] := by
  rw [List.set_append_right _ _ (Nat.le_refl _)]
  simp
theorem xlc_x {e : XE} {k : Nat} (a : α → AV) (xs : List α) (p : α → Bool) (g : α → AV) (he : xv P O e ρ h = .ok (.loc k) h) (hk : h[k]? = some (.lst (xs.map a))) (hl : xs.length < 1000)
    (hs : ∀ x ∈ xs, ∀ acc, ∃ ρ1, setX (h ++ [.lst acc]) tg (a x) (unX own ρ) = some ρ1 ∧ bx1 truK (xv P O tt ρ1 (h ++ [.lst acc])) = .ok (p x) (h ++ [.lst acc]) ∧ (p x = true → xv P O elt ρ1 (h ++ [.lst acc]) = .ok (g x) (h ++ [.lst acc]))) :
    xv P O (.lc own tg (.x e) tt elt) ρ h = .ok (.loc h.length) (h ++ [.lst ((xs.filter p).map g)]) := by
  simp only [xv, he, bnd_ok]
  obtain ⟨b, hb⟩ := big_pos
  have key : ∀ (r : List α) (c i : Nat) (acc : List AV), i + r.length = xs.length → xs.drop i = r → r.length < c → acc.length + r.length < 1000 → lcV k h.length (fun x h => noXO (match setX h tg x (unX own ρ) with
        | some ρ1 => (xv P O tt ρ1 h).bnd fun t h => (lft (truA h t) h).bnd fun r h => match r with
          | true => (xv P O elt ρ1 h).bnd fun y h => .ok (some y) h
          | false => .ok none h
        | none => .bad)) c i (h ++ [.lst acc]) = .ok (.loc h.length) (h ++ [.lst (acc ++ (r.filter p).map g)]) := by
    intro r
    induction r with
    | nil =>
      intro c i acc h1 h2 h3 h4
      cases c with
      | zero => omega
      | succ c =>
        have z : (xs.map a)[i]? = none := by
          rw [List.getElem?_eq_none_iff]
          simp at h1 ⊢
          omega
        simp only [lcV, pre_lst (List.prefix_append h _) hk, z, List.filter_nil, List.map_nil, List.append_nil]
    | cons x r ih =>
      intro c i acc h1 h2 h3 h4
      cases c with
      | zero => omega
      | succ c =>
        have hx : xs[i]? = some x := by
          have : (xs.drop i)[0]? = some x := by rw [h2]; rfl
          simpa using this
        have z : (xs.map a)[i]? = some (a x) := by rw [List.getElem?_map, hx]; rfl
        have hm : x ∈ xs := List.mem_of_getElem? hx
        obtain ⟨ρ1, e1, e2, e3⟩ := hs x hm acc
        have hd' : xs.drop (i + 1) = r := by
          rw [← List.drop_drop, h2]; rfl
        simp only [lcV, pre_lst (List.prefix_append h _) hk, z, e1]
        cases q : xv P O tt ρ1 (h ++ [.lst acc]) with
        | exc c x h => rw [q] at e2; cases e2
        | bad => rw [q] at e2; cases e2
        | ok t h' =>
          rw [q] at e2
          simp only [bx1_ok, truK] at e2
          simp only [bnd_ok]
          cases q2 : truA h' t with
          | exc c x => rw [q2] at e2; cases e2
          | bad => rw [q2] at e2; cases e2
          | ok t2 =>
            rw [q2] at e2
            simp only [lft_ok] at e2 ⊢
            cases e2
            simp only [bnd_ok]
            cases hp : p x with
            | true =>
              simp only [hp, e3 hp, bnd_ok, noXO_k, last_cell, last_set]
              rw [if_pos (by simp at h4; omega), ih c (i + 1) _ (by simp at h1; omega) hd' (by simp at h3; omega) (by simp at h4 ⊢; omega)]
              simp [List.filter_cons, hp]
            | false =>
              simp only [hp, bnd_ok, noXO_k, last_cell]
              rw [ih c (i + 1) _ (by simp at h1; omega) hd' (by simp at h3; omega) (by simp at h4 ⊢; omega)]
              simp [List.filter_cons, hp]
  have := key xs bigN 0 [] (by simp) (by simp) (by omega) (by simp; omega)
  rw [List.nil_append] at this
  exact this
theorem xlc_p {it : It} (d : α → Dat) (xs : List α) (p : α → Bool) (g : α → AV) (hi : evI P it (prE h ρ) = .ok (xs.map d)) (hl : xs.length < 1000)
    (hs : ∀ x ∈ xs, ∀ acc, ∃ ρ1, setX (h ++ [.lst acc]) tg (.fz (d x)) (unX own ρ) = some ρ1 ∧ bx1 truK (xv P O tt ρ1 (h ++ [.lst acc])) = .ok (p x) (h ++ [.lst acc]) ∧ (p x = true → xv P O elt ρ1 (h ++ [.lst acc]) = .ok (g x) (h ++ [.lst acc]))) :
    xv P O (.lc own tg (.p it) tt elt) ρ h = .ok (.loc h.length) (h ++ [.lst ((xs.filter p).map g)]) := by
  simp only [xv, hi, lft_ok, bnd_ok]
  rw [if_pos (by simp; omega)]
  have key : ∀ (r : List α) (acc : List AV), (∀ x ∈ r, x ∈ xs) → acc.length + r.length < 1000 → lcD h.length (fun x h => noXO (match setX h tg x (unX own ρ) with
        | some ρ1 => (xv P O tt ρ1 h).bnd fun t h => (lft (truA h t) h).bnd fun r h => match r with
          | true => (xv P O elt ρ1 h).bnd fun y h => .ok (some y) h
          | false => .ok none h
        | none => .bad)) ((r.map d).map .fz) (h ++ [.lst acc]) = .ok (.loc h.length) (h ++ [.lst (acc ++ (r.filter p).map g)]) := by
    intro r
    induction r with
    | nil =>
      intro acc h1 h4
      simp only [lcD, List.filter_nil, List.map_nil, List.append_nil]
    | cons x r ih =>
      intro acc h1 h4
      obtain ⟨ρ1, e1, e2, e3⟩ := hs x (h1 x (by simp)) acc
      simp only [lcD, List.map_cons, e1]
      cases q : xv P O tt ρ1 (h ++ [.lst acc]) with
      | exc c x h => rw [q] at e2; cases e2
      | bad => rw [q] at e2; cases e2
      | ok t h' =>
        rw [q] at e2
        simp only [bx1_ok, truK] at e2
        simp only [bnd_ok]
        cases q2 : truA h' t with
        | exc c x => rw [q2] at e2; cases e2
        | bad => rw [q2] at e2; cases e2
        | ok t2 =>
          rw [q2] at e2
          simp only [lft_ok] at e2 ⊢
          cases e2
          simp only [bnd_ok]
          cases hp : p x with
          | true =>
            simp only [hp, e3 hp, bnd_ok, noXO_k, last_cell, last_set]
            rw [if_pos (by simp at h4; omega), ih _ (fun y hy => h1 y (by simp [hy])) (by simp at h4 ⊢; omega)]
            simp [List.filter_cons, hp]
          | false =>
            simp only [hp, bnd_ok, noXO_k, last_cell]
            rw [ih _ (fun y hy => h1 y (by simp [hy])) (by simp at h4 ⊢; omega)]
            simp [List.filter_cons, hp]
  have := key xs [] (fun _ h => h) (by simp; omega)
  rw [List.nil_append] at this
  exact this
end
/-! frozen -/
theorem frzL_fz (f : Nat) : ∀ (ds : List Dat) (h : Hc), frzL (frzA (f + 1)) (ds.map .fz) h = some (ds, h)
  | [], h => rfl
  | d :: ds, h => by simp only [List.map_cons, frzL, frzA, frzL_fz f ds h]
theorem frzA_flat {h : Hc} {n : Nat} {ds : List Dat} (e : h[n]? = some (.lst (ds.map .fz))) (f : Nat) : frzA (f + 2) (.loc n) h = some (.list ds, h.set n .dead) := by
  simp only [frzA, e, frzL_fz]
/-- things with one cell each -/
theorem frzL_one {α : Type} {f : Nat} (a : α → AV) (d : α → Dat) (k : α → Nat) (R : Hc → α → Prop) (hR : ∀ h x n, R h x → n ≠ k x → R (h.set n .dead) x) (hf : ∀ h x, R h x → frzA f (a x) h = some (d x, h.set (k x) .dead)) :
    ∀ (xs : List α) (h : Hc), (xs.map k).Nodup → (∀ x ∈ xs, R h x) → ∃ h', frzL (frzA f) (xs.map a) h = some (xs.map d, h')
  | [], h, _, _ => ⟨h, rfl⟩
  | x :: xs, h, hn, hr => by
    simp only [List.map_cons, List.nodup_cons] at hn
    obtain ⟨h', e⟩ := frzL_one a d k R hR hf xs (h.set (k x) .dead) hn.2 fun y hy => hR h y _ (hr y (by simp [hy])) fun z => hn.1 (by rw [z]; exact List.mem_map_of_mem hy)
    exact ⟨h', by simp only [List.map_cons, frzL, hf h x (hr x (by simp)), e]⟩
end NW
end

section
set_option maxHeartbeats 4000000
namespace NK31
open PySem PySem.Spec PyProof.Rows L2 NW
/-- at_or_beneath(name, top) slots: ['name', 'top'] -/
def b_p_at_or_beneath : Ss := .cons (.ret (.cmp .eq (.sl (.var 0) .no (.bi .len (.cons (.var 1) .nil))) (.var 1))) <|
  .nil
/-- zones_at(houses, door) slots: ['houses', 'door'] -/
def b_p_zones_at : Ss := .cons (.ret (.dget (.var 0) (.var 1) (.lst .nil))) <|
  .nil
/-- kept(houses, door, top) slots: ['houses', 'door', 'top', 'zone'] -/
def v0_p_kept : Ss := .cons (.ifs (.cmp .eq (.ix (.var 3) (.int 0)) (.var 2))
    (.cons (.retF [false, false, true] (.cons (.ix (.var 3) (.int 0)) (.cons (.ix (.var 3) (.int 1)) (.cons (.bi .list (.cons (.ix (.var 3) (.int 2)) .nil)) .nil)))) <|
    .nil)
    (.nil)) <|
  .nil
def w0_p_kept : S := .for_ [3] (.nm 3) (.seq (.cal 1 (.cons (.var 0) (.cons (.var 1) .nil)))) v0_p_kept
def b_p_kept : Ss := .cons (w0_p_kept) <|
  .cons (.ret (.non)) <|
  .nil
/-- nearest(houses, door, name) slots: ['houses', 'door', 'name', 'best', 'zone'] -/
def v0_p_nearest : Ss := .cons (.ifs (.and (.cal 0 (.cons (.var 2) (.cons (.ix (.var 4) (.int 0)) .nil))) (.or (.cmp .isN (.var 3) (.non)) (.cmp .gt (.bi .len (.cons (.ix (.var 4) (.int 0)) .nil)) (.bi .len (.cons (.var 3) .nil)))))
    (.cons (.set 3 (.ix (.var 4) (.int 0))) <|
    .nil)
    (.nil)) <|
  .nil
def w0_p_nearest : S := .for_ [4] (.nm 4) (.seq (.cal 1 (.cons (.var 0) (.cons (.var 1) .nil)))) v0_p_nearest
def b_p_nearest : Ss := .cons (.set 3 (.non)) <|
  .cons (w0_p_nearest) <|
  .cons (.ifs (.cmp .isN (.var 3) (.non))
    (.cons (.ret (.non)) <|
    .nil)
    (.nil)) <|
  .cons (.retC (.cal 2 (.cons (.var 0) (.cons (.var 1) (.cons (.var 3) .nil))))) <|
  .nil
/-- _law_cell_at(_law_script, _law_k) slots: ['_law_script', '_law_k'] -/
def b_l_cell_at : Ss := .cons (.ifs (.cmp .lt (.var 1) (.bi .len (.cons (.var 0) .nil)))
    (.cons (.ret (.ix (.var 0) (.var 1))) <|
    .nil)
    (.nil)) <|
  .cons (.ret (.int 0)) <|
  .nil
/-- _law_part(_law_cell, _law_k, _law_many) slots: ['_law_cell', '_law_k', '_law_many'] -/
def b_l_part : Ss := .cons (.ret (.bin .mod (.bin .mod (.bin .mul (.bin .mod (.bin .mul (.bin .add (.bin .mod (.var 0) (.int 99991)) (.int 17)) (.bin .add (.int 48271) (.bin .mul (.int 7919) (.var 1)))) (.int 65537)) (.bin .add (.var 1) (.int 3))) (.int 8191)) (.var 2))) <|
  .nil
/-- _law_alike(_law_one, _law_other, _law_signs) slots: ['_law_one', '_law_other', '_law_signs', '_law_size', '_law_at', '_law_texts', '_law_k', '_law_text', '_law_j', '_law_number'] -/
def v0_l_alike : Ss := .cons (.set 9 (.cal 5 (.cons (.var 0) (.cons (.bin .add (.var 8) (.int 2)) (.cons (.bi .len (.cons (.var 2) .nil)) .nil))))) <|
  .cons (.ifs (.cmp .eq (.var 8) (.var 4))
    (.cons (.set 9 (.bin .add (.var 9) (.var 6))) <|
    .nil)
    (.nil)) <|
  .cons (.set 7 (.bin .add (.var 7) (.ix (.var 2) (.bin .mod (.var 9) (.bi .len (.cons (.var 2) .nil)))))) <|
  .nil
def w0_l_alike : S := .for_ [8, 9] (.nm 8) (.rng1 (.var 3)) v0_l_alike
def v1_l_alike : Ss := .cons (.set 7 (.str "")) <|
  .cons (w0_l_alike) <|
  .cons (.app 5 (.var 7)) <|
  .nil
def w1_l_alike : S := .for_ [6, 7, 8, 9] (.nm 6) (.rng1 (.int 4)) v1_l_alike
def b_l_alike : Ss := .cons (.set 3 (.bin .add (.int 1) (.cal 5 (.cons (.var 0) (.cons (.int 0) (.cons (.int 12) .nil)))))) <|
  .cons (.set 4 (.cal 5 (.cons (.var 1) (.cons (.int 1) (.cons (.var 3) .nil))))) <|
  .cons (.setO 5 (.lst .nil)) <|
  .cons (w1_l_alike) <|
  .frz 5 <|
  .cons (.ret (.var 5)) <|
  .nil
/-- _law_words(_law_one, _law_other) slots: ['_law_one', '_law_other', '_law_words_here', '_law_k'] -/
def e0_l_words : E := .lc [3] (.nm 3) (.rng1 (.int 4)) (.bl true) (.sl (.ix (.var 2) (.int 0)) .no (.bin .sub (.bi .len (.cons (.ix (.var 2) (.int 0)) .nil)) (.var 3)))
def b_l_words : Ss := .cons (.set 2 (.cal 6 (.cons (.var 0) (.cons (.var 1) (.cons (.str "abcdefghijklmnopqrstuvwxyz0123456789-") .nil))))) <|
  .cons (.ifs (.and (.cmp .gt (.bi .len (.cons (.ix (.var 2) (.int 0)) .nil)) (.int 3)) (.cmp .eq (.bin .mod (.var 1) (.int 2)) (.int 1)))
    (.cons (.ret (e0_l_words)) <|
    .nil)
    (.nil)) <|
  .cons (.ret (.var 2)) <|
  .nil
/-- _law_doors(_law_one, _law_other) slots: ['_law_one', '_law_other', '_law_signs', '_law_doors_here', '_law_k'] -/
def e0_l_doors : E := .lc [4] (.nm 4) (.rng1 (.int 4)) (.bl true) (.sl (.ix (.var 3) (.int 0)) .no (.bin .sub (.bi .len (.cons (.ix (.var 3) (.int 0)) .nil)) (.var 4)))
def b_l_doors : Ss := .cons (.set 2 (.str "!\"#$&'()*+,-./0123456789:;<=>?@ABCDEFGHIJKLMNOPQRSTUVWXYZ[\\]^_`abcxyz{|}~")) <|
  .cons (.set 3 (.cal 6 (.cons (.var 0) (.cons (.var 1) (.cons (.var 2) .nil))))) <|
  .cons (.ifs (.and (.cmp .gt (.bi .len (.cons (.ix (.var 3) (.int 0)) .nil)) (.int 3)) (.cmp .eq (.bin .mod (.var 1) (.int 2)) (.int 1)))
    (.cons (.ret (e0_l_doors)) <|
    .nil)
    (.nil)) <|
  .cons (.ret (.var 3)) <|
  .nil
/-- _law_below(_law_words_here, _law_cell, _law_k, _law_many) slots: ['_law_words_here', '_law_cell', '_law_k', '_law_many', '_law_name', '_law_j'] -/
def v0_l_below : Ss := .cons (.set 4 (.bin .add (.var 4) (.tup (.cons (.ix (.var 0) (.cal 5 (.cons (.var 1) (.cons (.bin .add (.var 2) (.var 5)) (.cons (.int 4) .nil))))) .nil)))) <|
  .nil
def w0_l_below : S := .for_ [5] (.nm 5) (.rng1 (.var 3)) v0_l_below
def b_l_below : Ss := .cons (.set 4 (.tup .nil)) <|
  .cons (w0_l_below) <|
  .cons (.ret (.var 4)) <|
  .nil
/-- _law_row(_law_words_here, _law_top, _law_cell) slots: ['_law_words_here', '_law_top', '_law_cell', '_law_name', '_law_kind', '_law_life'] -/
def b_l_row : Ss := .cons (.set 3 (.bin .add (.var 1) (.cal 9 (.cons (.var 0) (.cons (.var 2) (.cons (.int 1) (.cons (.cal 5 (.cons (.var 2) (.cons (.int 0) (.cons (.int 3) .nil)))) .nil))))))) <|
  .cons (.ifs (.cmp .eq (.cal 5 (.cons (.var 2) (.cons (.int 5) (.cons (.int 6) .nil)))) (.int 1))
    (.cons (.set 3 (.bin .add (.var 3) (.tup (.cons (.str "*") .nil)))) <|
    .nil)
    (.nil)) <|
  .cons (.set 4 (.ix (.lst (.cons (.str "mark") (.cons (.str "door") (.cons (.str "else") (.cons (.str "else") (.cons (.str "down") .nil)))))) (.cal 5 (.cons (.var 2) (.cons (.int 6) (.cons (.int 5) .nil)))))) <|
  .cons (.set 5 (.bin .mod (.bin .mul (.var 2) (.int 48271)) (.int 999999937))) <|
  .cons (.ifs (.cmp .isin (.var 4) (.lst (.cons (.str "down") (.cons (.str "else") .nil))))
    (.cons (.ret (.tup (.cons (.var 3) (.cons (.var 5) (.cons (.var 4) (.cons (.cal 9 (.cons (.var 0) (.cons (.var 2) (.cons (.int 7) (.cons (.cal 5 (.cons (.var 2) (.cons (.int 11) (.cons (.int 4) .nil)))) .nil))))) .nil)))))) <|
    .nil)
    (.nil)) <|
  .cons (.ret (.tup (.cons (.var 3) (.cons (.var 5) (.cons (.var 4) (.cons (.bin .add (.str "v") (.bi .str (.cons (.bin .mod (.var 2) (.bin .pow (.int 10) (.int 30))) .nil))) .nil)))))) <|
  .nil
/-- _law_fits(_law_rows, _law_row_here, _law_top) slots: ['_law_rows', '_law_row_here', '_law_top', '_law_one'] -/
def v0_l_fits : Ss := .cons (.ifs (.cmp .eq (.ix (.var 3) (.int 0)) (.ix (.var 1) (.int 0)))
    (.cons (.ifs (.or (.cmp .eq (.ix (.var 3) (.int 2)) (.str "else")) (.cmp .eq (.ix (.var 1) (.int 2)) (.str "else")))
      (.cons (.ret (.bl false)) <|
      .nil)
      (.nil)) <|
    .cons (.ifs (.and (.cmp .eq (.ix (.var 3) (.int 2)) (.ix (.var 1) (.int 2))) (.or (.cmp .eq (.ix (.var 1) (.int 2)) (.str "down")) (.cmp .eq (.ix (.var 3) (.int 3)) (.ix (.var 1) (.int 3)))))
      (.cons (.ret (.bl false)) <|
      .nil)
      (.nil)) <|
    .nil)
    (.nil)) <|
  .nil
def w0_l_fits : S := .for_ [3] (.nm 3) (.seq (.var 0)) v0_l_fits
def b_l_fits : Ss := .cons (.ifs (.and (.cmp .eq (.ix (.var 1) (.int 2)) (.str "down")) (.or (.cmp .eq (.ix (.var 1) (.int 0)) (.var 2)) (.cmp .eq (.ix (.ix (.var 1) (.int 0)) (.neg (.int 1))) (.str "*"))))
    (.cons (.ret (.bl false)) <|
    .nil)
    (.nil)) <|
  .cons (w0_l_fits) <|
  .cons (.ret (.bl true)) <|
  .nil
/-- _law_is_zone(_law_found, _law_due) slots: ['_law_found', '_law_due'] -/
def b_l_is_zone : Ss := .cons (.ifs (.cmp .isN (.var 1) (.non))
    (.cons (.ret (.cmp .isN (.var 0) (.non))) <|
    .nil)
    (.nil)) <|
  .cons (.ifs (.or (.not (.isi .tuple (.var 0))) (.or (.cmp .ne (.bi .len (.cons (.var 0) .nil)) (.int 3)) (.not (.isi .list (.ix (.var 0) (.int 2))))))
    (.cons (.ret (.bl false)) <|
    .nil)
    (.nil)) <|
  .cons (.ret (.and (.cmp .eq (.var 0) (.tup (.cons (.ix (.var 1) (.int 1)) (.cons (.ix (.var 1) (.int 2)) (.cons (.ix (.var 1) (.int 3)) .nil))))) (.and (.isi .tuple (.ix (.var 0) (.int 0))) (.not (.isi .bool (.ix (.var 0) (.int 1))))))) <|
  .nil
/-- _law_just(_law_zones_here, _law_door, _law_top) slots: ['_law_zones_here', '_law_door', '_law_top', '_law_zone'] -/
def v0_l_just : Ss := .cons (.ifs (.and (.cmp .eq (.ix (.var 3) (.int 0)) (.var 1)) (.cmp .eq (.ix (.var 3) (.int 1)) (.var 2)))
    (.cons (.ret (.var 3)) <|
    .nil)
    (.nil)) <|
  .nil
def w0_l_just : S := .for_ [3] (.nm 3) (.seq (.var 0)) v0_l_just
def b_l_just : Ss := .cons (w0_l_just) <|
  .cons (.ret (.non)) <|
  .nil
/-- _law_best(_law_zones_here, _law_door, _law_name) slots: ['_law_zones_here', '_law_door', '_law_name', '_law_best_here', '_law_size', '_law_zone'] -/
def v0_l_best : Ss := .cons (.set 5 (.cal 13 (.cons (.var 0) (.cons (.var 1) (.cons (.sl (.var 2) .no (.var 4)) .nil))))) <|
  .cons (.ifs (.cmp .ntN (.var 5) (.non))
    (.cons (.set 3 (.var 5)) <|
    .nil)
    (.nil)) <|
  .nil
def w0_l_best : S := .for_ [4, 5] (.nm 4) (.rng1 (.bin .add (.bi .len (.cons (.var 2) .nil)) (.int 1))) v0_l_best
def b_l_best : Ss := .cons (.set 3 (.non)) <|
  .cons (w0_l_best) <|
  .cons (.ret (.var 3)) <|
  .nil
/-- over cells: _law_zones(_law_words_here, _law_doors_here, _law_cells, _law_more) slots: ['_law_words_here', '_law_doors_here', '_law_cells', '_law_more', '_law_zones_here', '_law_cell', '_law_door', '_law_top', '_law_zone', '_law_row_here', '_law_one'] -/
def e0_l_zones : XE := .lc [10] (.nm 10) (.x (.v 4)) (.and (.cmp .eq (.ix (.v 10) (.p (.int 0))) (.p (.var 6))) (.cmp .eq (.ix (.v 10) (.p (.int 1))) (.p (.var 7)))) (.v 10)
def v0_l_zones : SXs := .cons (.set 6 (.p (.ix (.var 1) (.cal 5 (.cons (.var 5) (.cons (.int 0) (.cons (.int 3) .nil))))))) <|
  .cons (.set 7 (.p (.cal 9 (.cons (.var 0) (.cons (.var 5) (.cons (.int 1) (.cons (.cal 5 (.cons (.var 5) (.cons (.int 20) (.cons (.int 4) .nil)))) .nil))))))) <|
  .cons (.ifs (.cmp .eq (e0_l_zones) (.p (.lst .nil)))
  (.cons (.expr (.m1 .append (.v 4) (.tup (.cons (.p (.var 6)) (.cons (.p (.var 7)) (.cons (.p (.bin .mod (.bin .mul (.var 5) (.int 40692)) (.int 999999937))) (.cons (.lst .nil) .nil))))))) <|
  .nil)
  (.nil)) <|
  .nil
def w0_l_zones : SX := .for_ [5, 6, 7] (.nm 5) (.p (.seq (.var 2))) v0_l_zones
def v1_l_zones : SXs := .cons (.set 8 (.ix (.v 4) (.cald 5 (.cons (.p (.var 5)) (.cons (.p (.int 16)) (.cons (.len (.v 4)) .nil)))))) <|
  .cons (.set 9 (.cald 10 (.cons (.p (.var 0)) (.cons (.ix (.v 8) (.p (.int 1))) (.cons (.p (.var 5)) .nil))))) <|
  .cons (.ifs (.cald 11 (.cons (.ix (.v 8) (.p (.int 3))) (.cons (.p (.var 9)) (.cons (.ix (.v 8) (.p (.int 1))) .nil))))
  (.cons (.expr (.m1 .append (.ix (.v 8) (.p (.int 3))) (.p (.var 9)))) <|
  .nil)
  (.nil)) <|
  .nil
def w1_l_zones : SX := .for_ [5, 8, 9] (.nm 5) (.p (.seq (.var 3))) v1_l_zones
def b_l_zones : SXs := .cons (.set 4 (.lst .nil)) <|
  .cons (w0_l_zones) <|
  .cons (w1_l_zones) <|
  .cons (.ret (.frz (.v 4))) <|
  .nil
/-- over cells: _law_houses(_law_zones_here) slots: ['_law_zones_here', '_law_houses_here', '_law_door', '_law_top', '_law_life', '_law_rows'] -/
def v0_l_houses : SXs := .cons (.ifs (.din true (.p (.var 2)) (.v 1))
  (.cons (.setd (.v 1) (.p (.var 2)) (.lst .nil)) <|
  .nil)
  (.nil)) <|
  .cons (.expr (.m1 .append (.dix (.v 1) (.p (.var 2))) (.p (.tup (.cons (.var 3) (.cons (.var 4) (.cons (.bi .list (.cons (.var 5) .nil)) .nil))))))) <|
  .nil
def w0_l_houses : SX := .for_ [2, 3, 4, 5] (.tp [2, 3, 4, 5]) (.p (.seq (.var 0))) v0_l_houses
def b_l_houses : SXs := .cons (.set 1 (.dc0)) <|
  .cons (w0_l_houses) <|
  .cons (.ret (.v 1)) <|
  .nil
/-- over cells: _law_all_told(_law_houses_here, _law_zones_here, _law_doors_here, _law_names) slots: ['_law_houses_here', '_law_zones_here', '_law_doors_here', '_law_names', '_law_door', '_law_name'] -/
def v0_l_all_told : SXs := .cons (.ifs (.not (.cald 12 (.cons (.calt 2 (.cons (.v 0) (.cons (.p (.var 4)) (.cons (.p (.var 5)) .nil)))) (.cons (.p (.cal 13 (.cons (.var 1) (.cons (.var 4) (.cons (.var 5) .nil))))) .nil))))
  (.cons (.ret (.p (.bl false))) <|
  .nil)
  (.nil)) <|
  .cons (.ifs (.not (.cald 12 (.cons (.calt 3 (.cons (.v 0) (.cons (.p (.var 4)) (.cons (.p (.var 5)) .nil)))) (.cons (.p (.cal 14 (.cons (.var 1) (.cons (.var 4) (.cons (.var 5) .nil))))) .nil))))
  (.cons (.ret (.p (.bl false))) <|
  .nil)
  (.nil)) <|
  .nil
def w0_l_all_told : SX := .for_ [5] (.nm 5) (.p (.seq (.var 3))) v0_l_all_told
def v1_l_all_told : SXs := .cons (w0_l_all_told) <|
  .nil
def w1_l_all_told : SX := .for_ [4, 5] (.nm 4) (.p (.seq (.var 2))) v1_l_all_told
def b_l_all_told : SXs := .cons (w1_l_all_told) <|
  .cons (.ret (.p (.bl true))) <|
  .nil
/-- over cells: law(_law_script) slots: ['_law_script', '_law_words_here', '_law_doors_here', '_law_zones_here', '_law_houses_here', '_law_cell', '_law_names', '_law_zone', '_law_found', '_law_one', '_law_rest'] -/
def e0_law : E := .lc [7] (.nm 7) (.seq (.var 3)) (.bl true) (.ix (.var 7) (.int 1))
def v0_law : SXs := .cons (.expr (.m1 .append (.ix (.v 9) (.p (.int 2))) (.p (.tup (.cons (.ix (.var 7) (.int 1)) (.cons (.int 5) (.cons (.str "mark") (.cons (.str "x") .nil)))))))) <|
  .nil
def w0_law : SX := .for_ [9] (.nm 9) (.x (.v 8)) v0_law
def e1_law : XE := .lc [9] (.nm 9) (.x (.dix (.v 4) (.p (.ix (.var 7) (.int 0))))) (.cmp .ne (.ix (.v 9) (.p (.int 0))) (.p (.ix (.var 7) (.int 1)))) (.v 9)
def e2_law : E := .lc [9] (.nm 9) (.seq (.var 3)) (.cmp .ne (.var 9) (.var 7)) (.var 9)
def b_law : SXs := .cons (.set 1 (.p (.cal 7 (.cons (.cal 4 (.cons (.var 0) (.cons (.int 0) .nil))) (.cons (.cal 4 (.cons (.var 0) (.cons (.int 1) .nil))) .nil))))) <|
  .cons (.set 2 (.p (.cal 8 (.cons (.cal 4 (.cons (.var 0) (.cons (.int 2) .nil))) (.cons (.cal 4 (.cons (.var 0) (.cons (.int 3) .nil))) .nil))))) <|
  .cons (.set 3 (.cal 0 (.cons (.p (.var 1)) (.cons (.p (.var 2)) (.cons (.p (.bin .add (.lst (.cons (.cal 4 (.cons (.var 0) (.cons (.int 4) .nil))) .nil)) (.sl (.var 0) (.int 5) (.int 12)))) (.cons (.p (.sl (.var 0) (.int 12) (.int 40))) .nil)))))) <|
  .cons (.set 4 (.cal 1 (.cons (.p (.var 3)) .nil))) <|
  .cons (.set 5 (.p (.cal 4 (.cons (.var 0) (.cons (.int 3) .nil))))) <|
  .cons (.set 6 (.p (.bin .add (e0_law) (.lst (.cons (.cal 9 (.cons (.var 1) (.cons (.var 5) (.cons (.int 1) (.cons (.cal 5 (.cons (.var 5) (.cons (.int 0) (.cons (.int 6) .nil)))) .nil))))) .nil))))) <|
  .cons (.ifs (.not (.cal 2 (.cons (.v 4) (.cons (.p (.var 3)) (.cons (.p (.var 2)) (.cons (.p (.var 6)) .nil))))))
  (.cons (.ret (.p (.bl false))) <|
  .nil)
  (.nil)) <|
  .cons (.set 7 (.p (.ix (.var 3) (.bin .mod (.var 5) (.bi .len (.cons (.var 3) .nil)))))) <|
  .cons (.set 8 (.lst (.cons (.calt 2 (.cons (.v 4) (.cons (.p (.ix (.var 7) (.int 0))) (.cons (.p (.ix (.var 7) (.int 1))) .nil)))) (.cons (.calt 3 (.cons (.v 4) (.cons (.p (.ix (.var 7) (.int 0))) (.cons (.p (.ix (.var 7) (.int 1))) .nil)))) .nil)))) <|
  .cons (w0_law) <|
  .cons (.ifs (.or (.cmp .ne (.v 4) (.cal 1 (.cons (.p (.var 3)) .nil))) (.not (.cal 2 (.cons (.v 4) (.cons (.p (.var 3)) (.cons (.p (.lst (.cons (.ix (.var 7) (.int 0)) .nil))) (.cons (.p (.lst (.cons (.ix (.var 7) (.int 1)) .nil))) .nil)))))))
  (.cons (.ret (.p (.bl false))) <|
  .nil)
  (.nil)) <|
  .cons (.setd (.v 4) (.p (.ix (.var 7) (.int 0))) (e1_law)) <|
  .cons (.set 10 (.p (e2_law))) <|
  .cons (.ifs (.not (.cal 2 (.cons (.v 4) (.cons (.p (.var 10)) (.cons (.p (.var 2)) (.cons (.p (.var 6)) .nil))))))
  (.cons (.ret (.p (.bl false))) <|
  .nil)
  (.nil)) <|
  .cons (.ret (.cald 12 (.cons (.ix (.v 8) (.p (.int 0))) (.cons (.p (.tup (.cons (.ix (.var 7) (.int 0)) (.cons (.ix (.var 7) (.int 1)) (.cons (.ix (.var 7) (.int 2)) (.cons (.bin .add (.ix (.var 7) (.int 3)) (.lst (.cons (.tup (.cons (.ix (.var 7) (.int 1)) (.cons (.int 5) (.cons (.str "mark") (.cons (.str "x") .nil))))) .nil))) .nil)))))) .nil)))) <|
  .nil
def cs (k : Nat) : Dat := ([] : List Dat).getD k .none
def xmL : List (Str × Str × Bool) := []
def xm (c c' : Str) : Option Bool := xmF xmL c c'
def xiL : List (Str × Str × Bool) := []
def xi (c c' : Str) : Option Bool := xmF xiL c c'
abbrev P0 : Pg := ⟨fun _ _ => .bad, cs, xm, xi⟩
abbrev g_p_at_or_beneath : Sig := ⟨"at_or_beneath", [false, false], 0, none, false⟩
abbrev N_p_at_or_beneath : List Str := ["name", "top"]
abbrev Q_p_at_or_beneath : Pg := P0
def f_p_at_or_beneath (ds : List Dat) : Res Dat := runF Q_p_at_or_beneath 2 [false, false] false b_p_at_or_beneath ds
def P1 : Pg := P0.add 0 f_p_at_or_beneath
abbrev g_p_zones_at : Sig := ⟨"zones_at", [false, false], 0, none, false⟩
abbrev N_p_zones_at : List Str := ["houses", "door"]
abbrev Q_p_zones_at : Pg := P1
def f_p_zones_at (ds : List Dat) : Res Dat := runF Q_p_zones_at 2 [false, false] false b_p_zones_at ds
def P2 : Pg := P1.add 1 f_p_zones_at
abbrev g_p_kept : Sig := ⟨"kept", [false, false, false], 3, none, false⟩
abbrev N_p_kept : List Str := ["houses", "door", "top", "zone"]
abbrev Q_p_kept : Pg := P2
def f_p_kept (ds : List Dat) : Res Dat := runF Q_p_kept 4 [false, false, false] false b_p_kept ds
def P3 : Pg := P2.add 2 f_p_kept
abbrev g_p_nearest : Sig := ⟨"nearest", [false, false, false], 3, none, false⟩
abbrev N_p_nearest : List Str := ["houses", "door", "name", "best", "zone"]
abbrev Q_p_nearest : Pg := P3
def f_p_nearest (ds : List Dat) : Res Dat := runF Q_p_nearest 5 [false, false, false] false b_p_nearest ds
def P4 : Pg := P3.add 3 f_p_nearest
abbrev g_l_cell_at : Sig := ⟨"_law_cell_at", [false, false], 0, none, false⟩
abbrev N_l_cell_at : List Str := ["_law_script", "_law_k"]
abbrev Q_l_cell_at : Pg := P4
def f_l_cell_at (ds : List Dat) : Res Dat := runF Q_l_cell_at 2 [false, false] false b_l_cell_at ds
def P5 : Pg := P4.add 4 f_l_cell_at
abbrev g_l_part : Sig := ⟨"_law_part", [false, false, false], 0, none, false⟩
abbrev N_l_part : List Str := ["_law_cell", "_law_k", "_law_many"]
abbrev Q_l_part : Pg := P5
def f_l_part (ds : List Dat) : Res Dat := runF Q_l_part 3 [false, false, false] false b_l_part ds
def P6 : Pg := P5.add 5 f_l_part
abbrev g_l_alike : Sig := ⟨"_law_alike", [false, false, false], 0, none, false⟩
abbrev N_l_alike : List Str := ["_law_one", "_law_other", "_law_signs", "_law_size", "_law_at", "_law_texts", "_law_k", "_law_text", "_law_j", "_law_number"]
abbrev Q_l_alike : Pg := P6
def f_l_alike (ds : List Dat) : Res Dat := runF Q_l_alike 10 [false, false, false] false b_l_alike ds
def P7 : Pg := P6.add 6 f_l_alike
abbrev g_l_words : Sig := ⟨"_law_words", [false, false], 0, none, false⟩
abbrev N_l_words : List Str := ["_law_one", "_law_other", "_law_words_here", "_law_k"]
abbrev Q_l_words : Pg := P7
def f_l_words (ds : List Dat) : Res Dat := runF Q_l_words 4 [false, false] false b_l_words ds
def P8 : Pg := P7.add 7 f_l_words
abbrev g_l_doors : Sig := ⟨"_law_doors", [false, false], 0, none, false⟩
abbrev N_l_doors : List Str := ["_law_one", "_law_other", "_law_signs", "_law_doors_here", "_law_k"]
abbrev Q_l_doors : Pg := P8
def f_l_doors (ds : List Dat) : Res Dat := runF Q_l_doors 5 [false, false] false b_l_doors ds
def P9 : Pg := P8.add 8 f_l_doors
abbrev g_l_below : Sig := ⟨"_law_below", [false, false, false, false], 0, none, false⟩
abbrev N_l_below : List Str := ["_law_words_here", "_law_cell", "_law_k", "_law_many", "_law_name", "_law_j"]
abbrev Q_l_below : Pg := P9
def f_l_below (ds : List Dat) : Res Dat := runF Q_l_below 6 [false, false, false, false] false b_l_below ds
def P10 : Pg := P9.add 9 f_l_below
abbrev g_l_row : Sig := ⟨"_law_row", [false, false, false], 0, none, false⟩
abbrev N_l_row : List Str := ["_law_words_here", "_law_top", "_law_cell", "_law_name", "_law_kind", "_law_life"]
abbrev Q_l_row : Pg := P10
def f_l_row (ds : List Dat) : Res Dat := runF Q_l_row 6 [false, false, false] false b_l_row ds
def P11 : Pg := P10.add 10 f_l_row
abbrev g_l_fits : Sig := ⟨"_law_fits", [false, false, false], 0, none, false⟩
abbrev N_l_fits : List Str := ["_law_rows", "_law_row_here", "_law_top", "_law_one"]
abbrev Q_l_fits : Pg := P11
def f_l_fits (ds : List Dat) : Res Dat := runF Q_l_fits 4 [false, false, false] false b_l_fits ds
def P12 : Pg := P11.add 11 f_l_fits
abbrev g_l_is_zone : Sig := ⟨"_law_is_zone", [false, false], 0, none, false⟩
abbrev N_l_is_zone : List Str := ["_law_found", "_law_due"]
abbrev Q_l_is_zone : Pg := P12
def f_l_is_zone (ds : List Dat) : Res Dat := runF Q_l_is_zone 2 [false, false] false b_l_is_zone ds
def P13 : Pg := P12.add 12 f_l_is_zone
abbrev g_l_just : Sig := ⟨"_law_just", [false, false, false], 0, none, false⟩
abbrev N_l_just : List Str := ["_law_zones_here", "_law_door", "_law_top", "_law_zone"]
abbrev Q_l_just : Pg := P13
def f_l_just (ds : List Dat) : Res Dat := runF Q_l_just 4 [false, false, false] false b_l_just ds
def P14 : Pg := P13.add 13 f_l_just
abbrev g_l_best : Sig := ⟨"_law_best", [false, false, false], 0, none, false⟩
abbrev N_l_best : List Str := ["_law_zones_here", "_law_door", "_law_name", "_law_best_here", "_law_size", "_law_zone"]
abbrev Q_l_best : Pg := P14
def f_l_best (ds : List Dat) : Res Dat := runF Q_l_best 6 [false, false, false] false b_l_best ds
def P15 : Pg := P14.add 14 f_l_best
@[simp] theorem Q_p_kept_1 : Q_p_kept.F 1 = f_p_zones_at := rfl
@[simp] theorem Q_p_nearest_0 : Q_p_nearest.F 0 = f_p_at_or_beneath := rfl
@[simp] theorem Q_p_nearest_1 : Q_p_nearest.F 1 = f_p_zones_at := rfl
@[simp] theorem Q_p_nearest_2 : Q_p_nearest.F 2 = f_p_kept := rfl
@[simp] theorem Q_l_alike_5 : Q_l_alike.F 5 = f_l_part := rfl
@[simp] theorem Q_l_words_6 : Q_l_words.F 6 = f_l_alike := rfl
@[simp] theorem Q_l_doors_6 : Q_l_doors.F 6 = f_l_alike := rfl
@[simp] theorem Q_l_below_5 : Q_l_below.F 5 = f_l_part := rfl
@[simp] theorem Q_l_row_5 : Q_l_row.F 5 = f_l_part := rfl
@[simp] theorem Q_l_row_9 : Q_l_row.F 9 = f_l_below := rfl
@[simp] theorem Q_l_best_13 : Q_l_best.F 13 = f_l_just := rfl
def T : Tx := ⟨[g_p_at_or_beneath, g_p_zones_at, g_p_kept, g_p_nearest, g_l_cell_at, g_l_part, g_l_alike, g_l_words, g_l_doors, g_l_below, g_l_row, g_l_fits, g_l_is_zone, g_l_just, g_l_best], [], [], [], false⟩
def S : List SigO := [⟨"_law_zones", 4, none, false⟩, ⟨"_law_houses", 1, none, false⟩, ⟨"_law_all_told", 4, none, false⟩, ⟨"law", 1, none, false⟩]
abbrev PT : Pg := P15
abbrev O0 : PgO := ⟨fun _ _ _ => .bad, fun _ _ => false⟩
abbrev g_l_zones : SigO := ⟨"_law_zones", 4, none, false⟩
abbrev N_l_zones : List Str := ["_law_words_here", "_law_doors_here", "_law_cells", "_law_more", "_law_zones_here", "_law_cell", "_law_door", "_law_top", "_law_zone", "_law_row_here", "_law_one"]
abbrev q_l_zones : PgO := O0
def f_l_zones (as : List AV) (h : Hc) : RO AV := runX PT q_l_zones 11 b_l_zones as h
def O1 : PgO := O0.add 0 f_l_zones
abbrev g_l_houses : SigO := ⟨"_law_houses", 1, none, false⟩
abbrev N_l_houses : List Str := ["_law_zones_here", "_law_houses_here", "_law_door", "_law_top", "_law_life", "_law_rows"]
abbrev q_l_houses : PgO := O1
def f_l_houses (as : List AV) (h : Hc) : RO AV := runX PT q_l_houses 6 b_l_houses as h
def O2 : PgO := O1.add 1 f_l_houses
abbrev g_l_all_told : SigO := ⟨"_law_all_told", 4, none, false⟩
abbrev N_l_all_told : List Str := ["_law_houses_here", "_law_zones_here", "_law_doors_here", "_law_names", "_law_door", "_law_name"]
abbrev q_l_all_told : PgO := O2
def f_l_all_told (as : List AV) (h : Hc) : RO AV := runX PT q_l_all_told 6 b_l_all_told as h
def O3 : PgO := O2.add 2 f_l_all_told
abbrev g_law : SigO := ⟨"law", 1, none, false⟩
abbrev N_law : List Str := ["_law_script", "_law_words_here", "_law_doors_here", "_law_zones_here", "_law_houses_here", "_law_cell", "_law_names", "_law_zone", "_law_found", "_law_one", "_law_rest"]
abbrev q_law : PgO := O3
def f_law (as : List AV) (h : Hc) : RO AV := runX PT q_law 11 b_law as h
def O4 : PgO := O3.add 3 f_law
@[simp] theorem PT_0 : PT.F 0 = f_p_at_or_beneath := rfl
@[simp] theorem PT_1 : PT.F 1 = f_p_zones_at := rfl
@[simp] theorem PT_2 : PT.F 2 = f_p_kept := rfl
@[simp] theorem PT_3 : PT.F 3 = f_p_nearest := rfl
@[simp] theorem PT_4 : PT.F 4 = f_l_cell_at := rfl
@[simp] theorem PT_5 : PT.F 5 = f_l_part := rfl
@[simp] theorem PT_6 : PT.F 6 = f_l_alike := rfl
@[simp] theorem PT_7 : PT.F 7 = f_l_words := rfl
@[simp] theorem PT_8 : PT.F 8 = f_l_doors := rfl
@[simp] theorem PT_9 : PT.F 9 = f_l_below := rfl
@[simp] theorem PT_10 : PT.F 10 = f_l_row := rfl
@[simp] theorem PT_11 : PT.F 11 = f_l_fits := rfl
@[simp] theorem PT_12 : PT.F 12 = f_l_is_zone := rfl
@[simp] theorem PT_13 : PT.F 13 = f_l_just := rfl
@[simp] theorem PT_14 : PT.F 14 = f_l_best := rfl
@[simp] theorem q_law_0 : q_law.F 0 = f_l_zones := rfl
@[simp] theorem q_law_1 : q_law.F 1 = f_l_houses := rfl
@[simp] theorem q_law_2 : q_law.F 2 = f_l_all_told := rfl
end NK31
end

section
set_option maxHeartbeats 4000000
namespace NK31
open PySem PySem.Spec NW
abbrev nm (ws : List Str) : Dat := .tuple (ws.map .str)
def cell (ns : List Int) (k : Nat) : Int := ns.getD k 0
theorem r_cell (ns : List Int) (k : Nat) : f_l_cell_at [.list (ns.map .int), .int k] = .ok (.int (cell ns k)) := by
  unfold cell
  by_cases h : k < ns.length <;> simp [f_l_cell_at, b_l_cell_at, atI_nat, h]
def signs : List Nat := (Str.ofString "abcdefghijklmnopqrstuvwxyz0123456789-").cps.toList
theorem signs_len : signs.length = 37 := by decide +kernel
theorem signs_s : Str.ofString "abcdefghijklmnopqrstuvwxyz0123456789-" = tx signs := (tx_of _).symm
theorem empty_s : Str.ofString "" = tx [] := (tx_of _).symm
theorem one_s (c : Nat) : (⟨#[c]⟩ : Str) = tx [c] := rfl
theorem at_signs (x : Int) : L2.atI signs (x % 37) = some (signs.getD (x % 37).toNat 0) := atI_some _ _ _ (by omega) (by rw [signs_len]; omega)
theorem at_mem (x : Int) : signs.getD (x % 37).toNat 0 ∈ signs := by
  have h : (x % 37).toNat < signs.length := by rw [signs_len]; omega
  rw [List.getD_eq_getElem?_getD, List.getElem?_eq_getElem h]
  exact List.getElem_mem h
structure GoodW (w : Str) : Prop where
  lo : 1 ≤ w.length
  hi : w.length ≤ 12
  mem : ∀ x ∈ w.cps.toList, x ∈ signs
def part (c k m : Int) : Int := (c % 99991 + 17) * (48271 + 7919 * k) % 65537 * (k + 3) % 8191 % m
theorem r_part (c k m : Int) (hm : 0 < m) : f_l_part [.int c, .int k, .int m] = .ok (.int (part c k m)) := by
  have h1 : ∀ y : Int, binD .mul (.int (c % 99991 + 17)) (.int y) = .ok (.int ((c % 99991 + 17) * y)) := fun y => bin_mul' _ _ (by omega)
  have h2 : ∀ x y : Int, binD .mul (.int (x % 65537)) (.int y) = .ok (.int (x % 65537 * y)) := fun x y => bin_mul' _ _ (by omega)
  have h3 : ∀ y : Int, binD .mul (.int 7919) (.int y) = .ok (.int (7919 * y)) := fun y => bin_mul' _ _ (by omega)
  simp [f_l_part, b_l_part, bin_mod, h1, h2, h3, bin_mod _ _ hm, part]
theorem part_lo (c k m : Int) (hm : 0 < m) : 0 ≤ part c k m := Int.emod_nonneg _ (by omega)
theorem part_hi (c k m : Int) (hm : 0 < m) : part c k m < m := Int.emod_lt_of_pos _ hm
theorem at_strs (W : List Str) (i : Int) (h : 0 ≤ i) (h' : i < W.length) : ∃ w ∈ W, L2.atI (W.map PyData.str) i = some (.str w) := by
  obtain ⟨n, rfl⟩ := Int.eq_ofNat_of_zero_le h
  have hn : n < W.length := by omega
  refine ⟨W[n], List.getElem_mem hn, ?_⟩
  rw [atI_nat]
  simp [hn]
theorem at_sg (sg : List Nat) (h : 0 < sg.length) (x : Int) : L2.atI sg (x % (sg.length : Int)) = some (sg.getD (x % (sg.length : Int)).toNat 0) := by
  have h0 : (sg.length : Int) ≠ 0 := by omega
  have h1 := Int.emod_nonneg x h0
  have h2 := Int.emod_lt_of_pos x (b := (sg.length : Int)) (by omega)
  exact atI_some _ _ _ (by omega) (by omega)
theorem at_msg (sg : List Nat) (h : 0 < sg.length) (x : Int) : sg.getD (x % (sg.length : Int)).toNat 0 ∈ sg := by
  have h0 : (sg.length : Int) ≠ 0 := by omega
  have h1 := Int.emod_nonneg x h0
  have h2 := Int.emod_lt_of_pos x (b := (sg.length : Int)) (by omega)
  have h : (x % (sg.length : Int)).toNat < sg.length := by omega
  rw [List.getD_eq_getElem?_getD, List.getElem?_eq_getElem h]
  exact List.getElem_mem h
structure GoodL (sg : List Nat) (w : Str) : Prop where
  lo : 1 ≤ w.length
  hi : w.length ≤ 12
  mem : ∀ x ∈ w.cps.toList, x ∈ sg
theorem r_alike (sg : List Nat) (hs : 0 < sg.length) (hs' : sg.length ≤ 1000) (a b : Int) : ∃ (W : List Str) (n : Nat), f_l_alike [.int a, .int b, .str (tx sg)] = .ok (.list (W.map .str)) ∧ W.length = 4 ∧ ∀ w ∈ W, GoodL sg w ∧ w.length = n := by
  have p0 := r_part a 0 12 (by omega)
  have l0 := part_lo a 0 12 (by omega)
  have u0 := part_hi a 0 12 (by omega)
  generalize part a 0 12 = q at *
  obtain ⟨n, hn⟩ := Int.eq_ofNat_of_zero_le (a := 1 + q) (by omega)
  have p1 := r_part b 1 (n : Int) (by omega)
  generalize part b 1 (n : Int) = t at *
  have hs1 : sg.length ≤ 1000000 := by omega
  have hm : ∀ x : Int, binD .mod (.int x) (.int (sg.length : Int)) = .ok (.int (x % (sg.length : Int))) := fun x => bin_mod _ _ (by omega)
  have inner : ∀ (W : List Dat) (k : Nat), ∃ l : List Nat, l.length = n ∧ (∀ x ∈ l, x ∈ sg) ∧ exS Q_l_alike w0_l_alike [.fz (.int a), .fz (.int b), .fz (.str (tx sg)), .fz (.int n), .fz (.int t), .ow W, .fz (.int k), .fz (.str (tx [])), .un, .un]
      = .nx [.fz (.int a), .fz (.int b), .fz (.str (tx sg)), .fz (.int n), .fz (.int t), .ow W, .fz (.int k), .fz (.str (tx l)), .un, .un] := fun W k => by
    refine for_st (fun i : Nat => PyData.int (i : Int)) (List.range n) (fun l : List Nat => [Sl.fz (.int a), .fz (.int b), .fz (.str (tx sg)), .fz (.int n), .fz (.int t), .ow W, .fz (.int k), .fz (.str (tx l)), .un, .un]) (fun r l => l.length + r.length = n ∧ ∀ x ∈ l, x ∈ sg)
      (fun o => ∃ l : List Nat, l.length = n ∧ (∀ x ∈ l, x ∈ sg) ∧ o = .nx [.fz (.int a), .fz (.int b), .fz (.str (tx sg)), .fz (.int n), .fz (.int t), .ow W, .fz (.int k), .fz (.str (tx l)), .un, .un]) [] ?_ ⟨by simp, by simp⟩ rfl (fun l h => ⟨l, by simpa using h.1, h.2, rfl⟩) fun j r l h => ⟨_, rfl, .inl ?_⟩
    · simp
      exact r1R_nat (by omega)
    · have pj := r_part a ((j : Int) + 2) (sg.length : Int) (by omega)
      have bl : l.length + 1 ≤ 1000000 := by have := h.1; simp at this; omega
      generalize part a ((j : Int) + 2) (sg.length : Int) = z at *
      by_cases e : (j : Int) = t
      · refine ⟨l ++ [sg.getD ((z + k) % (sg.length : Int)).toNat 0], [.fz (.int a), .fz (.int b), .fz (.str (tx sg)), .fz (.int n), .fz (.int t), .ow W, .fz (.int k), .fz (.str (tx (l ++ [sg.getD ((z + k) % (sg.length : Int)).toNat 0]))), .fz (.int j), .fz (.int (z + k))], .inl ?_, rfl, by have := h.1; simp at this ⊢; omega, fun x hx => ?_⟩
        · subst e
          simp [v0_l_alike, pj, hs1, hm, at_sg sg hs, one_s, bin_cat, bl, tx_cat]
        · rcases List.mem_append.mp hx with hx | hx
          · exact h.2 x hx
          · rw [List.mem_singleton] at hx
            subst hx
            exact at_msg sg hs _
      · refine ⟨l ++ [sg.getD (z % (sg.length : Int)).toNat 0], [.fz (.int a), .fz (.int b), .fz (.str (tx sg)), .fz (.int n), .fz (.int t), .ow W, .fz (.int k), .fz (.str (tx (l ++ [sg.getD (z % (sg.length : Int)).toNat 0]))), .fz (.int j), .fz (.int z)], .inl ?_, rfl, by have := h.1; simp at this ⊢; omega, fun x hx => ?_⟩
        · simp [v0_l_alike, pj, e, hs1, hm, at_sg sg hs, one_s, bin_cat, bl, tx_cat]
        · rcases List.mem_append.mp hx with hx | hx
          · exact h.2 x hx
          · rw [List.mem_singleton] at hx
            subst hx
            exact at_msg sg hs _
  have outer : ∃ W : List Str, W.length = 4 ∧ (∀ w ∈ W, GoodL sg w ∧ w.length = n) ∧ exS Q_l_alike w1_l_alike [.fz (.int a), .fz (.int b), .fz (.str (tx sg)), .fz (.int n), .fz (.int t), .ow [], .un, .un, .un, .un]
      = .nx [.fz (.int a), .fz (.int b), .fz (.str (tx sg)), .fz (.int n), .fz (.int t), .ow (W.map .str), .un, .un, .un, .un] := by
    refine for_st (fun i : Nat => PyData.int (i : Int)) (List.range 4) (fun W : List Str => [Sl.fz (.int a), .fz (.int b), .fz (.str (tx sg)), .fz (.int n), .fz (.int t), .ow (W.map .str), .un, .un, .un, .un]) (fun r W => W.length + r.length = 4 ∧ ∀ w ∈ W, GoodL sg w ∧ w.length = n)
      (fun o => ∃ W : List Str, W.length = 4 ∧ (∀ w ∈ W, GoodL sg w ∧ w.length = n) ∧ o = .nx [.fz (.int a), .fz (.int b), .fz (.str (tx sg)), .fz (.int n), .fz (.int t), .ow (W.map .str), .un, .un, .un, .un]) [] ?_ ⟨by simp, by simp⟩ rfl (fun l h => ⟨l, by simpa using h.1, h.2, rfl⟩) fun j r W h => ⟨_, rfl, .inl ?_⟩
    · simp
      exact r1R_nat (n := 4) (by omega)
    · obtain ⟨l, h1, h2, h3⟩ := inner (W.map .str) j
      have hW : W.length < 1000000 := by have := h.1; simp at this; omega
      refine ⟨W ++ [tx l], [.fz (.int a), .fz (.int b), .fz (.str (tx sg)), .fz (.int n), .fz (.int t), .ow ((W ++ [tx l]).map .str), .fz (.int j), .fz (.str (tx l)), .un, .un], .inl ?_, rfl, by have := h.1; simp at this ⊢; omega, fun x hx => ?_⟩
      · simp [v1_l_alike, empty_s, h3, hW]
      · rcases List.mem_append.mp hx with hx | hx
        · exact h.2 x hx
        · rw [List.mem_singleton] at hx
          subst hx
          exact ⟨⟨by rw [tx_len]; omega, by rw [tx_len]; omega, by simpa using h2⟩, by rw [tx_len]; exact h1⟩
  obtain ⟨W, h1, h2, h3⟩ := outer
  exact ⟨W, n, by simp [f_l_alike, b_l_alike, p0, hn, p1, h3], h1, h2⟩
theorem cut4 (sg : List Nat) (w0 : Str) (n : Nat) (hl : w0.length = n) (g : GoodL sg w0) (hn : 3 < n) : ∀ w ∈ (List.range 4).map fun k => tx (w0.cps.toList.take (n - k)), GoodL sg w := fun w hw => by
  obtain ⟨l, rfl⟩ : ∃ l, w0 = tx l := ⟨_, (tx_of w0).symm⟩
  rw [tx_len] at hl
  obtain ⟨k, hk, rfl⟩ := List.mem_map.mp hw
  have hk' := List.mem_range.mp hk
  have h12 := g.hi
  rw [tx_len] at h12
  simp only [tx_list]
  have hlen : (tx (l.take (n - k))).length = n - k := by rw [tx_len, List.length_take]; omega
  refine ⟨by rw [hlen]; omega, by rw [hlen]; omega, fun x hx => ?_⟩
  rw [tx_list] at hx
  exact g.mem x (by rw [tx_list]; exact List.mem_of_mem_take hx)
theorem r_words (a b : Int) : ∃ W : List Str, f_l_words [.int a, .int b] = .ok (.list (W.map .str)) ∧ W.length = 4 ∧ ∀ w ∈ W, GoodL signs w := by
  obtain ⟨W, n, h0, h1, h2⟩ := r_alike signs (by rw [signs_len]; omega) (by rw [signs_len]; omega) a b
  obtain ⟨w0, hw0, hq⟩ := at_strs W 0 (by omega) (by omega)
  have gw := h2 w0 hw0
  obtain ⟨l, rfl⟩ : ∃ l, w0 = tx l := ⟨_, (tx_of w0).symm⟩
  have hl : l.length = n := by have := gw.2; rwa [tx_len] at this
  have h12 := gw.1.hi
  rw [tx_len] at h12
  by_cases g : (3 : Int) < n ∧ b % 2 = 1
  · obtain ⟨g1, g2⟩ := g
    have he : ev Q_l_words e0_l_words [.fz (.int a), .fz (.int b), .fz (.list (W.map .str)), .un] = .ok (.list (((List.range 4).map fun k => tx (l.take (n - k))).map .str)) := by
      rw [List.map_map]
      refine lc_map (fun i : Nat => PyData.int (i : Int)) (fun k => PyData.str (tx (l.take (n - k)))) (List.range 4) ?_ (by simp) fun k hk => ⟨_, rfl, ?_, ?_⟩
      · simp
        exact r1R_nat (n := 4) (by omega)
      · simp
      · have hk' := List.mem_range.mp hk
        have e : (l.length : Int) - (k : Int) = ((n - k : Nat) : Int) := by omega
        have q1 : l.length ≤ 1000000 := by omega
        have e2 : L2.cutS (tx l) none (some ((l.length : Int) - (k : Int))) = tx (l.take (n - k)) := by rw [e, cutS_tx, cut_to]
        simp [hq, q1, e2]
    refine ⟨(List.range 4).map fun k => tx (l.take (n - k)), ?_, by simp, ?_⟩
    · have g1' : (3 : Int) < l.length := by omega
      have q1 : l.length ≤ 1000000 := by omega
      simp [f_l_words, b_l_words, signs_s, h0, hq, g1', g2, bin_mod, he, q1]
    · have := cut4 signs (tx l) n gw.2 gw.1 (by omega)
      simpa only [tx_list] using this
  · refine ⟨W, ?_, h1, fun w hw => (h2 w hw).1⟩
    have q1 : l.length ≤ 1000000 := by omega
    by_cases g1 : (3 : Int) < l.length
    · have g2 : ¬ b % 2 = 1 := fun h => g ⟨by omega, h⟩
      simp [f_l_words, b_l_words, signs_s, h0, hq, g1, g2, bin_mod, q1]
    · simp [f_l_words, b_l_words, signs_s, h0, hq, g1, q1]
def dsigns : List Nat := (Str.ofString "!\"#$&'()*+,-./0123456789:;<=>?@ABCDEFGHIJKLMNOPQRSTUVWXYZ[\\]^_`abcxyz{|}~").cps.toList
theorem dsigns_len : dsigns.length = 73 := by decide +kernel
theorem dsigns_s : Str.ofString "!\"#$&'()*+,-./0123456789:;<=>?@ABCDEFGHIJKLMNOPQRSTUVWXYZ[\\]^_`abcxyz{|}~" = tx dsigns := (tx_of _).symm
theorem r_doors (a b : Int) : ∃ W : List Str, f_l_doors [.int a, .int b] = .ok (.list (W.map .str)) ∧ W.length = 4 ∧ ∀ w ∈ W, GoodL dsigns w := by
  obtain ⟨W, n, h0, h1, h2⟩ := r_alike dsigns (by rw [dsigns_len]; omega) (by rw [dsigns_len]; omega) a b
  obtain ⟨w0, hw0, hq⟩ := at_strs W 0 (by omega) (by omega)
  have gw := h2 w0 hw0
  obtain ⟨l, rfl⟩ : ∃ l, w0 = tx l := ⟨_, (tx_of w0).symm⟩
  have hl : l.length = n := by have := gw.2; rwa [tx_len] at this
  have h12 := gw.1.hi
  rw [tx_len] at h12
  by_cases g : (3 : Int) < n ∧ b % 2 = 1
  · obtain ⟨g1, g2⟩ := g
    have he : ev Q_l_doors e0_l_doors [.fz (.int a), .fz (.int b), .fz (.str (tx dsigns)), .fz (.list (W.map .str)), .un] = .ok (.list (((List.range 4).map fun k => tx (l.take (n - k))).map .str)) := by
      rw [List.map_map]
      refine lc_map (fun i : Nat => PyData.int (i : Int)) (fun k => PyData.str (tx (l.take (n - k)))) (List.range 4) ?_ (by simp) fun k hk => ⟨_, rfl, ?_, ?_⟩
      · simp
        exact r1R_nat (n := 4) (by omega)
      · simp
      · have hk' := List.mem_range.mp hk
        have e : (l.length : Int) - (k : Int) = ((n - k : Nat) : Int) := by omega
        have q1 : l.length ≤ 1000000 := by omega
        have e2 : L2.cutS (tx l) none (some ((l.length : Int) - (k : Int))) = tx (l.take (n - k)) := by rw [e, cutS_tx, cut_to]
        simp [hq, q1, e2]
    refine ⟨(List.range 4).map fun k => tx (l.take (n - k)), ?_, by simp, ?_⟩
    · have g1' : (3 : Int) < l.length := by omega
      have q1 : l.length ≤ 1000000 := by omega
      simp [f_l_doors, b_l_doors, dsigns_s, h0, hq, g1', g2, bin_mod, he, q1]
    · have := cut4 dsigns (tx l) n gw.2 gw.1 (by omega)
      simpa only [tx_list] using this
  · refine ⟨W, ?_, h1, fun w hw => (h2 w hw).1⟩
    have q1 : l.length ≤ 1000000 := by omega
    by_cases g1 : (3 : Int) < l.length
    · have g2 : ¬ b % 2 = 1 := fun h => g ⟨by omega, h⟩
      simp [f_l_doors, b_l_doors, dsigns_s, h0, hq, g1, g2, bin_mod, q1]
    · simp [f_l_doors, b_l_doors, dsigns_s, h0, hq, g1, q1]
theorem r_below (W : List Str) (hW : W.length = 4) (c k m : Int) (hm : 0 ≤ m) (hm' : m ≤ 100) : ∃ N : List Str, f_l_below [.list (W.map .str), .int c, .int k, .int m] = .ok (nm N) ∧ N.length = m.toNat ∧ ∀ w ∈ N, w ∈ W := by
  obtain ⟨n, rfl⟩ := Int.eq_ofNat_of_zero_le hm
  have hw : ∃ N : List Str, N.length = n ∧ (∀ w ∈ N, w ∈ W) ∧ exS Q_l_below w0_l_below [.fz (.list (W.map .str)), .fz (.int c), .fz (.int k), .fz (.int n), .fz (nm []), .un] = .nx [.fz (.list (W.map .str)), .fz (.int c), .fz (.int k), .fz (.int n), .fz (nm N), .un] := by
    refine for_st (fun i : Nat => PyData.int (i : Int)) (List.range n) (fun N : List Str => [Sl.fz (.list (W.map .str)), .fz (.int c), .fz (.int k), .fz (.int n), .fz (nm N), .un]) (fun r N => N.length + r.length = n ∧ ∀ w ∈ N, w ∈ W)
      (fun o => ∃ N : List Str, N.length = n ∧ (∀ w ∈ N, w ∈ W) ∧ o = .nx [.fz (.list (W.map .str)), .fz (.int c), .fz (.int k), .fz (.int n), .fz (nm N), .un]) [] ?_ ⟨by simp, by simp⟩ rfl (fun l h => ⟨l, by simpa using h.1, h.2, rfl⟩) fun j r N h => ⟨_, rfl, .inl ?_⟩
    · simp
      exact r1R_nat (by omega)
    · have pj := r_part c (k + j) 4 (by omega)
      obtain ⟨w, hw, hq⟩ := at_strs W (part c (k + j) 4) (part_lo _ _ _ (by omega)) (by have := part_hi c (k + j) 4 (by omega); omega)
      have hb : binD .add (nm N) (.tuple [.str w]) = .ok (nm (N ++ [w])) := by
        simp only [nm]
        rw [bin_tup _ _ (by have := h.1; simp at this ⊢; omega)]
        simp
      refine ⟨N ++ [w], [.fz (.list (W.map .str)), .fz (.int c), .fz (.int k), .fz (.int n), .fz (nm (N ++ [w])), .fz (.int j)], .inl ?_, rfl, by have := h.1; simp at this ⊢; omega, fun x hx => ?_⟩
      · simp [v0_l_below, pj, hq, hb]
      · rcases List.mem_append.mp hx with hx | hx
        · exact h.2 x hx
        · rw [List.mem_singleton] at hx
          subst hx
          exact hw
  obtain ⟨N, h1, h2, h3⟩ := hw
  refine ⟨N, ?_, by omega, h2⟩
  have h3' : exS Q_l_below w0_l_below [.fz (.list (W.map .str)), .fz (.int c), .fz (.int k), .fz (.int n), .fz (.tuple []), .un] = _ := h3
  simp [f_l_below, b_l_below, h3']
inductive Val where
  | n (a : List Str)
  | s (x : Str)
  deriving DecidableEq
structure Row where
  nm : List Str
  life : Int
  kind : Str
  val : Val
  deriving DecidableEq
def valD : Val → Dat
  | .n a => nm a
  | .s x => .str x
def rowD (r : Row) : Dat := .tuple [nm r.nm, .int r.life, .str r.kind, valD r.val]
theorem encV : Enc valD 1 := ⟨fun a b => by
    cases a <;> cases b
    · simp only [valD, nm]
      rw [encN.eqv]
      simp
    · simp [valD, nm, PyData.eqv]
    · simp [valD, nm, PyData.eqv]
    · simp [valD], fun a => by cases a with
    | n a => exact encN.ndc a
    | s x => rfl, fun a => by cases a with
    | n a => exact encN.dep a
    | s x => simp [valD, PyData.depth]⟩
theorem encR : Enc rowD 2 := ⟨fun a b => by
    have h1 : PyData.eqv (nm a.nm) (nm b.nm) = decide (a.nm = b.nm) := encN.eqv a.nm b.nm
    have h2 := encV.eqv a.val b.val
    have e : PyData.eqv (rowD a) (rowD b) = (PyData.eqv (nm a.nm) (nm b.nm) && (PyData.eqv (.int a.life) (.int b.life) && (PyData.eqv (.str a.kind) (.str b.kind) && (PyData.eqv (valD a.val) (valD b.val) && true)))) := rfl
    rw [e, h1, h2, eqv_int, eqv_str]
    cases a; cases b
    simp only [Row.mk.injEq, Bool.and_true]
    rw [Bool.eq_iff_iff]
    simp, fun a => by
    have h1 : ndc (nm a.nm) = true := encN.ndc a.nm
    have h2 := encV.ndc a.val
    have e : ndc (rowD a) = (ndc (nm a.nm) && (true && (true && (ndc (valD a.val) && true)))) := rfl
    rw [e, h1, h2]
    rfl, fun a => by
    refine depth_tup _ fun d hd => ?_
    simp only [List.mem_cons, List.not_mem_nil, or_false] at hd
    rcases hd with rfl | rfl | rfl | rfl
    · exact encN.dep a.nm
    · simp [PyData.depth]
    · simp [PyData.depth]
    · exact encV.dep a.val⟩
theorem cmp_nm (a b : List Str) : cmpD .eq (nm a) (nm b) = .ok (decide (a = b)) := encN.eq (by decide) a b
theorem cmpn_nm (a b : List Str) : cmpD .ne (nm a) (nm b) = .ok (!decide (a = b)) := encN.ne (by decide) a b
theorem row_0 (r : Row) : ixD (rowD r) (.int 0) = .ok (nm r.nm) := by simp [rowD, L2.atI, L2.ixN]
theorem row_2 (r : Row) : ixD (rowD r) (.int 2) = .ok (.str r.kind) := by simp [rowD, L2.atI, L2.ixN]
theorem row_3 (r : Row) : ixD (rowD r) (.int 3) = .ok (valD r.val) := by simp [rowD, L2.atI, L2.ixN]
def zoneD (top : List Str) (life : Int) (R : List Row) : Dat := .tuple [nm top, .int life, .list (R.map rowD)]
theorem zone_0 (t : List Str) (l : Int) (R : List Row) : ixD (zoneD t l R) (.int 0) = .ok (nm t) := by simp [zoneD, L2.atI, L2.ixN]
theorem zone_2 (t : List Str) (l : Int) (R : List Row) : ixD (zoneD t l R) (.int 2) = .ok (.list (R.map rowD)) := by simp [zoneD, L2.atI, L2.ixN]
theorem kind_in (k : Str) : cmpD .isin (.str k) (.list [.str (Str.ofString "down"), .str (Str.ofString "else")]) = .ok (decide (k ∈ [Str.ofString "down", Str.ofString "else"])) := encS.isin (by decide) k [Str.ofString "down", Str.ofString "else"]
def GdV (r : Row) : Prop := (r.kind ∈ [Str.ofString "down", Str.ofString "else"] ∧ ∃ a, r.val = .n a) ∨ (r.kind ∉ [Str.ofString "down", Str.ofString "else"] ∧ ∃ a, r.val = .s a)
theorem r_row (W : List Str) (hW : W.length = 4) (top : List Str) (ht : top.length ≤ 20) (c : Int) : ∃ R : Row, f_l_row [.list (W.map .str), nm top, .int c] = .ok (rowD R) ∧ (R.nm ≠ top → R.nm ≠ []) ∧ R.nm.length ≤ 40 ∧ top <+: R.nm ∧ GdV R ∧ (∀ a, R.val = .n a → a.length ≤ 40) := by
  have p0 := r_part c 0 3 (by omega)
  have p5 := r_part c 5 6 (by omega)
  have p6 := r_part c 6 5 (by omega)
  have p11 := r_part c 11 4 (by omega)
  have l11 := part_lo c 11 4 (by omega)
  have u11 := part_hi c 11 4 (by omega)
  generalize part c 11 4 = q11 at *
  obtain ⟨N, b0, b1, _⟩ := r_below W hW c 1 (part c 0 3) (part_lo _ _ _ (by omega)) (by have := part_hi c 0 3 (by omega); omega)
  have hN : N.length ≤ 3 := by have := part_hi c 0 3 (by omega); omega
  obtain ⟨M, d0, d1, _⟩ := r_below W hW c 7 q11 (by omega) (by omega)
  obtain ⟨k, hk, a6⟩ := at_strs [Str.ofString "mark", Str.ofString "door", Str.ofString "else", Str.ofString "else", Str.ofString "down"] (part c 6 5) (part_lo _ _ _ (by omega)) (by have := part_hi c 6 5 (by omega); simpa using this)
  simp only [List.map_cons, List.map_nil] at a6
  have e1 : binD .add (nm top) (nm N) = .ok (nm (top ++ N)) := by
    simp only [nm]
    rw [bin_tup _ _ (by simp; omega), List.map_append]
  have e3 := num_len30 c
  have em : binD .mul (.int c) (.int 48271) = .ok (.int (c * 48271)) := if_pos (.inr (by omega))
  have e4 : binD .add (.str (Str.ofString "v")) (.str (numS (c % 1000000000000000000000000000000))) = .ok (.str (Str.ofString "v" ++ numS (c % 1000000000000000000000000000000))) := by
    rw [bin_cat]
    have : (Str.ofString "v").length = 1 := by decide +kernel
    omega
  have si := kind_in k
  have hT : top ++ N ≠ top → top ++ N ≠ [] := fun h1 h2 => by
    rw [List.append_eq_nil_iff] at h2
    rw [h2.1, h2.2] at h1
    simp at h1
  have hl : (top ++ N).length ≤ 30 := by simp; omega
  have hp : top <+: top ++ N := List.prefix_append _ _
  generalize top ++ N = T at *
  have e2 : binD .add (nm T) (.tuple [.str (Str.ofString "*")]) = .ok (nm (T ++ [Str.ofString "*"])) := by
    simp only [nm]
    rw [bin_tup _ _ (by simp; omega)]
    simp
  by_cases h5 : part c 5 6 = 1
  · have hl2 : (T ++ [Str.ofString "*"]).length ≤ 40 := by simp; omega
    have hT2 : T ++ [Str.ofString "*"] ≠ top → T ++ [Str.ofString "*"] ≠ [] := fun _ => by simp
    have hp2 : top <+: T ++ [Str.ofString "*"] := hp.trans (List.prefix_append _ _)
    generalize T ++ [Str.ofString "*"] = T2 at *
    by_cases h : k ∈ [Str.ofString "down", Str.ofString "else"]
    · rw [decide_eq_true h] at si
      refine ⟨⟨T2, c * 48271 % 999999937, k, .n M⟩, ?_, hT2, hl2, hp2, .inl ⟨h, M, rfl⟩, fun a e => by cases e; omega⟩
      simp [-biD, f_l_row, b_l_row, p0, b0, e1, p5, h5, e2, p6, a6, si, em, bin_mod, p11, d0, rowD, valD]
    · rw [decide_eq_false h] at si
      refine ⟨⟨T2, c * 48271 % 999999937, k, .s (Str.ofString "v" ++ numS (c % 1000000000000000000000000000000))⟩, ?_, hT2, hl2, hp2, .inr ⟨h, _, rfl⟩, fun a e => by cases e⟩
      simp [-biD, f_l_row, b_l_row, p0, b0, e1, p5, h5, e2, p6, a6, si, em, bin_mod, pow_30, bi_str30, e4, rowD, valD]
  · by_cases h : k ∈ [Str.ofString "down", Str.ofString "else"]
    · rw [decide_eq_true h] at si
      refine ⟨⟨T, c * 48271 % 999999937, k, .n M⟩, ?_, hT, by show T.length ≤ 40; omega, hp, .inl ⟨h, M, rfl⟩, fun a e => by cases e; omega⟩
      simp [-biD, f_l_row, b_l_row, p0, b0, e1, p5, h5, e2, p6, a6, si, em, bin_mod, p11, d0, rowD, valD]
    · rw [decide_eq_false h] at si
      refine ⟨⟨T, c * 48271 % 999999937, k, .s (Str.ofString "v" ++ numS (c % 1000000000000000000000000000000))⟩, ?_, hT, by show T.length ≤ 40; omega, hp, .inr ⟨h, _, rfl⟩, fun a e => by cases e⟩
      simp [-biD, f_l_row, b_l_row, p0, b0, e1, p5, h5, e2, p6, a6, si, em, bin_mod, pow_30, bi_str30, e4, rowD, valD]
theorem last_ok (n : List Str) (h : n ≠ []) : ∃ w : Str, ixD (nm n) (.int (-1)) = .ok (.str w) := by
  have hl : 0 < n.length := List.length_pos_iff.mpr h
  have hn : n.length - 1 < n.length := by omega
  refine ⟨n[n.length - 1], ?_⟩
  have e1 : L2.atI (n.map PyData.str) (-1) = some (.str n[n.length - 1]) := by
    unfold L2.atI L2.ixN
    rw [if_neg (by omega), if_pos (by simp; omega)]
    have : (-1 + ((n.map PyData.str).length : Int)).toNat = n.length - 1 := by simp; omega
    simp only [Option.bind_some, this]
    simp [hn]
  simp [nm, e1]
/-- a loop body that never raises: it goes on or gives False -/
theorem r_fits (Rs : List Row) (R : Row) (top : List Str) (h : R.nm ≠ top → R.nm ≠ []) : ∃ b : Bool, f_l_fits [.list (Rs.map rowD), rowD R, nm top] = .ok (.bool b) := by
  have hw : exS Q_l_fits w0_l_fits [.fz (.list (Rs.map rowD)), .fz (rowD R), .fz (nm top), .un] = .ret (.bool false) ∨ exS Q_l_fits w0_l_fits [.fz (.list (Rs.map rowD)), .fz (rowD R), .fz (nm top), .un] = .nx [.fz (.list (Rs.map rowD)), .fz (rowD R), .fz (nm top), .un] := by
    refine for_st rowD Rs (fun _ : Unit => [Sl.fz (.list (Rs.map rowD)), .fz (rowD R), .fz (nm top), .un]) (fun _ _ => True) (fun o => o = .ret (.bool false) ∨ o = .nx [.fz (.list (Rs.map rowD)), .fz (rowD R), .fz (nm top), .un]) () (by simp) trivial rfl (fun _ _ => .inr rfl) fun x r _ _ => ⟨[.fz (.list (Rs.map rowD)), .fz (rowD R), .fz (nm top), .fz (rowD x)], rfl, ?_⟩
    have c1 := cmp_nm x.nm R.nm
    have c2 : cmpD .eq (valD x.val) (valD R.val) = .ok (decide (x.val = R.val)) := encV.eq (by decide) _ _
    have hb : exSs Q_l_fits v0_l_fits [.fz (.list (Rs.map rowD)), .fz (rowD R), .fz (nm top), .fz (rowD x)] = .nx [.fz (.list (Rs.map rowD)), .fz (rowD R), .fz (nm top), .fz (rowD x)] ∨ exSs Q_l_fits v0_l_fits [.fz (.list (Rs.map rowD)), .fz (rowD R), .fz (nm top), .fz (rowD x)] = .ret (.bool false) := by
      generalize decide (x.nm = R.nm) = b1 at c1
      generalize decide (x.val = R.val) = b2 at c2
      generalize h2 : decide (x.kind = Str.ofString "else") = b3
      generalize h3 : decide (R.kind = Str.ofString "else") = b4
      generalize h4 : decide (x.kind = R.kind) = b5
      generalize h5 : decide (R.kind = Str.ofString "down") = b6
      cases b1 <;> cases b2 <;> cases b3 <;> cases b4 <;> cases b5 <;> cases b6 <;>
        simp only [v0_l_fits, exSs_cons, exSs_nil, exS_ifs, exS_ret, ev_cmp, ev_ix, ev_var, ev_int, ev_str, ev_bl, ev_or, ev_and, getS_zero, getS_succ, varR_fz, ixR_ok, row_0, row_2, row_3, cmpR_ok, cmp_eqs, c1, c2, h2, h3, h4, h5, blR_ok, tR_ok, truD, orR_ok, andR_ok, ifR_t, ifR_f, ifO_t, ifO_f, retR_ok, seqO_ret, seqO_nx] <;> simp
    rcases hb with hb | hb
    · exact .inl ⟨(), _, .inl hb, rfl, trivial⟩
    · exact .inr (.inl ⟨_, hb, .inl rfl⟩)
  have c0 := cmp_nm R.nm top
  have fin : ∃ b : Bool, runO false (seqO (exS Q_l_fits w0_l_fits [.fz (.list (Rs.map rowD)), .fz (rowD R), .fz (nm top), .un]) Q_l_fits (.cons (.ret (.bl true)) .nil)) = .ok (.bool b) := by
    rcases hw with hw | hw
    · exact ⟨false, by rw [hw]; simp⟩
    · exact ⟨true, by rw [hw]; simp⟩
  by_cases h1 : R.kind = Str.ofString "down"
  · by_cases h2 : R.nm = top
    · rw [decide_eq_true h2] at c0
      exact ⟨false, by simp [-ixD, f_l_fits, b_l_fits, row_0, row_2, c0, h1]⟩
    · obtain ⟨w, hq⟩ := last_ok R.nm (h h2)
      rw [decide_eq_false h2] at c0
      by_cases h3 : w = Str.ofString "*"
      · exact ⟨false, by simp [-ixD, f_l_fits, b_l_fits, row_0, row_2, c0, h1, hq, h3]⟩
      · simpa [-ixD, f_l_fits, b_l_fits, row_0, row_2, c0, h1, hq, h3] using fin
  · simpa [-ixD, f_l_fits, b_l_fits, row_0, row_2, c0, h1] using fin
structure Zn where
  door : Str
  top : List Str
  life : Int
  rows : List Row
  deriving DecidableEq
def znD (z : Zn) : Dat := .tuple [.str z.door, nm z.top, .int z.life, .list (z.rows.map rowD)]
def zoD (z : Zn) : Dat := zoneD z.top z.life z.rows
theorem encZn : Enc znD 4 := ⟨fun a b => by
    have h1 : PyData.eqv (nm a.top) (nm b.top) = decide (a.top = b.top) := encN.eqv a.top b.top
    have h2 := encR.lst.eqv a.rows b.rows
    have e : PyData.eqv (znD a) (znD b) = (PyData.eqv (.str a.door) (.str b.door) && (PyData.eqv (nm a.top) (nm b.top) && (PyData.eqv (.int a.life) (.int b.life) && (PyData.eqv (.list (a.rows.map rowD)) (.list (b.rows.map rowD)) && true)))) := rfl
    rw [e, h1, h2, eqv_int, eqv_str]
    cases a; cases b
    simp only [Zn.mk.injEq, Bool.and_true]
    rw [Bool.eq_iff_iff]
    simp, fun a => by
    have h1 : ndc (nm a.top) = true := encN.ndc a.top
    have h2 := encR.lst.ndc a.rows
    have e : ndc (znD a) = (true && (ndc (nm a.top) && (true && (ndc (.list (a.rows.map rowD)) && true)))) := rfl
    rw [e, h1, h2]
    rfl, fun a => by
    refine depth_tup _ fun d hd => ?_
    simp only [List.mem_cons, List.not_mem_nil, or_false] at hd
    rcases hd with rfl | rfl | rfl | rfl
    · simp [PyData.depth]
    · exact Nat.le_trans (encN.dep a.top) (by omega)
    · simp [PyData.depth]
    · exact encR.lst.dep a.rows⟩
theorem zn_0 (z : Zn) : ixD (znD z) (.int 0) = .ok (.str z.door) := by simp [znD, L2.atI, L2.ixN]
theorem zn_1 (z : Zn) : ixD (znD z) (.int 1) = .ok (nm z.top) := by simp [znD, L2.atI, L2.ixN]
theorem zn_2 (z : Zn) : ixD (znD z) (.int 2) = .ok (.int z.life) := by simp [znD, L2.atI, L2.ixN]
theorem zn_3 (z : Zn) : ixD (znD z) (.int 3) = .ok (.list (z.rows.map rowD)) := by simp [znD, L2.atI, L2.ixN]
theorem lfrees_str : ∀ ws : List Str, lfrees (ws.map PyData.str) = true
  | [] => rfl
  | w :: ws => by simp only [List.map_cons, lfrees, lfree, lfrees_str ws, Bool.and_self]
theorem lfree_nm (a : List Str) : lfree (nm a) = true := lfrees_str a
theorem lfree_row (r : Row) : lfree (rowD r) = true := by
  have h1 := lfree_nm r.nm
  have h2 : lfree (valD r.val) = true := by
    cases r.val with
    | n a => exact lfree_nm a
    | s x => rfl
  show (lfree (nm r.nm) && (true && (true && (lfree (valD r.val) && true)))) = true
  rw [h1, h2]; rfl
/-- a zone while it is built: its rows lie in the cell k -/
structure ZK where
  z : Zn
  k : Nat
def zkA (x : ZK) : AV := .tp [.fz (.str x.z.door), .fz (nm x.z.top), .fz (.int x.z.life), .loc x.k]
structure ZH (h : Hc) (n : Nat) (zs : List ZK) : Prop where
  lst : h[n]? = some (.lst (zs.map zkA))
  row : ∀ x ∈ zs, h[x.k]? = some (.lst ((x.z.rows.map rowD).map .fz))
  nd : (n :: zs.map (·.k)).Nodup
def zkey (z : Zn) : Str × List Str := (z.door, z.top)
theorem zk_rd {h : Hc} {n : Nat} {zs : List ZK} (H : ZH h n zs) {x : ZK} (hx : x ∈ zs) (f : Nat) : rdA h (f + 3) (zkA x) = some (znD x.z) := by
  refine rdA_tp ?_
  have q := rdA_flat (H.row x hx) f
  have e2 : rdA h (f + 2) (.fz (.str x.z.door)) = some (.str x.z.door) := rdA_fz _ (f + 1) _
  have e3 : rdA h (f + 2) (.fz (nm x.z.top)) = some (nm x.z.top) := rdA_fz _ (f + 1) _
  have e4 : rdA h (f + 2) (.fz (.int x.z.life)) = some (.int x.z.life) := rdA_fz _ (f + 1) _
  simp only [rdL, e2, e3, e4, q]
theorem zh_frz {h : Hc} {n : Nat} {zs : List ZK} (H : ZH h n zs) : ∃ h', frz (.loc n) h = some (.list (zs.map fun x => znD x.z), h') := by
  have hn := H.nd
  rw [List.nodup_cons] at hn
  obtain ⟨h', e⟩ := frzL_one (f := 8) zkA (fun x => znD x.z) (·.k) (fun h x => h[x.k]? = some (.lst ((x.z.rows.map rowD).map .fz))) (fun h x m hr hm => by rw [List.getElem?_set_ne hm]; exact hr) (fun h x hr => by
    have q := frzA_flat hr 5
    simp only [zkA, frzA, frzL] at q ⊢
    rw [q]
    rfl) zs (h.set n .dead) hn.2 fun x hx => by
      have : n ≠ x.k := fun z => hn.1 (by rw [z]; exact List.mem_map_of_mem hx)
      rw [List.getElem?_set_ne this]
      exact H.row x hx
  refine ⟨h', ?_⟩
  simp only [frz, frzA, H.lst]
  rw [e]
structure GdZ (D : List Str) (z : Zn) : Prop where
  door : z.door ∈ D
  top : z.top.length ≤ 3
  row : ∀ r ∈ z.rows, (r.nm ≠ z.top → r.nm ≠ []) ∧ r.nm.length ≤ 40 ∧ z.top <+: r.nm ∧ GdV r ∧ (∀ a, r.val = .n a → a.length ≤ 40)
theorem zk_ix0 (x : ZK) (h : Hc) : ixA (zkA x) (.fz (.int 0)) h = .ok (.fz (.str x.z.door)) h := by simp [zkA, L2.atI, L2.ixN]
theorem zk_ix1 (x : ZK) (h : Hc) : ixA (zkA x) (.fz (.int 1)) h = .ok (.fz (nm x.z.top)) h := by simp [zkA, L2.atI, L2.ixN]
theorem zk_ix3 (x : ZK) (h : Hc) : ixA (zkA x) (.fz (.int 3)) h = .ok (.loc x.k) h := by simp [zkA, L2.atI, L2.ixN]
theorem zh_pre {h h' : Hc} {n : Nat} {zs : List ZK} (H : ZH h n zs) (p : h <+: h') : ZH h' n zs := ⟨pre_lst p H.lst, fun x hx => pre_lst p (H.row x hx), H.nd⟩
theorem zh_lt {h : Hc} {n : Nat} {zs : List ZK} (H : ZH h n zs) : n < h.length ∧ ∀ x ∈ zs, x.k < h.length := ⟨(List.getElem?_eq_some_iff.mp H.lst).1, fun x hx => (List.getElem?_eq_some_iff.mp (H.row x hx)).1⟩
theorem zh_add {h : Hc} {n : Nat} {zs : List ZK} (H : ZH h n zs) (x : ZK) (hk : x.k = h.length) (hr : x.z.rows = []) : ZH ((h ++ [Cell.lst []]).set n (.lst (zs.map zkA ++ [zkA x]))) n (zs ++ [x]) := by
  have hl := zh_lt H
  have hn := H.nd
  rw [List.nodup_cons] at hn
  refine ⟨?_, fun y hy => ?_, ?_⟩
  · rw [List.getElem?_set_self (by simp; omega)]
    simp
  · rcases List.mem_append.mp hy with hy | hy
    · have hz : n ≠ y.k := fun z => hn.1 (by rw [z]; exact List.mem_map_of_mem hy)
      rw [List.getElem?_set_ne hz, List.getElem?_append_left (hl.2 y hy)]
      exact H.row y hy
    · rw [List.mem_singleton] at hy
      subst hy
      rw [List.getElem?_set_ne (by omega), hk, hr]
      simp
  · have e : n :: (zs ++ [x]).map (·.k) = (n :: zs.map (·.k)) ++ [x.k] := by simp
    rw [e, List.nodup_append]
    refine ⟨H.nd, by simp, fun a ha b hb => ?_⟩
    rw [List.mem_singleton] at hb
    subst hb
    rw [hk]
    rcases List.mem_cons.mp ha with ha | ha
    · omega
    · obtain ⟨y, hy, rfl⟩ := List.mem_map.mp ha
      have := hl.2 y hy
      omega
def zput (k : Nat) (R : Row) (y : ZK) : ZK := if y.k = k then ⟨{ y.z with rows := y.z.rows ++ [R] }, y.k⟩ else y
theorem zput_k (k : Nat) (R : Row) (y : ZK) : (zput k R y).k = y.k := by unfold zput; split <;> rfl
theorem zput_A (k : Nat) (R : Row) (y : ZK) : zkA (zput k R y) = zkA y := by unfold zput; split <;> rfl
theorem zput_key (k : Nat) (R : Row) (y : ZK) : zkey (zput k R y).z = zkey y.z := by unfold zput; split <;> rfl
theorem zh_put {h : Hc} {n : Nat} {zs : List ZK} (H : ZH h n zs) {x : ZK} (hx : x ∈ zs) (R : Row) : ZH (h.set x.k (.lst ((x.z.rows.map rowD).map .fz ++ [.fz (rowD R)]))) n (zs.map (zput x.k R)) := by
  have hl := zh_lt H
  have hn := H.nd
  rw [List.nodup_cons] at hn
  have ek : (zs.map (zput x.k R)).map (·.k) = zs.map (·.k) := by rw [List.map_map]; exact List.map_congr_left fun y _ => zput_k _ _ y
  have ea : (zs.map (zput x.k R)).map zkA = zs.map zkA := by rw [List.map_map]; exact List.map_congr_left fun y _ => zput_A _ _ y
  have hz : x.k ≠ n := fun z => hn.1 (by rw [← z]; exact List.mem_map_of_mem hx)
  refine ⟨?_, fun y hy => ?_, by rw [ek]; exact H.nd⟩
  · rw [List.getElem?_set_ne hz, ea]
    exact H.lst
  · obtain ⟨u, hu, rfl⟩ := List.mem_map.mp hy
    by_cases e : u.k = x.k
    · have eu : u = x := nodup_inj (·.k) hn.2 hu hx e
      subst eu
      rw [zput_k, List.getElem?_set_self (hl.2 u hu)]
      simp [zput]
    · rw [zput_k, List.getElem?_set_ne (Ne.symm e)]
      have : zput x.k R u = u := by unfold zput; rw [if_neg e]
      rw [this]
      exact H.row u hu
theorem r_zones (W D : List Str) (hW : W.length = 4) (hD : D.length = 4) (cs ms : List Int) (hc : 1 ≤ cs.length) (hc' : cs.length ≤ 8) (hm : ms.length ≤ 60) (h : Hc) :
    ∃ (Z : List Zn) (h' : Hc), f_l_zones [.fz (.list (W.map .str)), .fz (.list (D.map .str)), .fz (.list (cs.map .int)), .fz (.list (ms.map .int))] h = .ok (.fz (.list (Z.map znD))) h' ∧ 1 ≤ Z.length ∧ Z.length ≤ 8 ∧ (Z.map zkey).Nodup ∧ ∀ z ∈ Z, GdZ D z ∧ z.rows.length ≤ ms.length := by
  have w0 : ∃ (zs : List ZK) (h1 : Hc), exX PT q_l_zones w0_l_zones [some (.fz (.list (W.map .str))), some (.fz (.list (D.map .str))), some (.fz (.list (cs.map .int))), some (.fz (.list (ms.map .int))), some (.loc h.length), none, none, none, none, none, none] (h ++ [.lst []])
        = .nx [some (.fz (.list (W.map .str))), some (.fz (.list (D.map .str))), some (.fz (.list (cs.map .int))), some (.fz (.list (ms.map .int))), some (.loc h.length), none, none, none, none, none, none] h1
      ∧ ZH h1 h.length zs ∧ (zs.map fun x => zkey x.z).Nodup ∧ (∀ x ∈ zs, GdZ D x.z ∧ x.z.rows = []) ∧ zs.length ≤ 8 ∧ 1 ≤ zs.length := by
    refine xfor_rule (Q := fun o => ∃ (zs : List ZK) (h1 : Hc), o = .nx [some (.fz (.list (W.map .str))), some (.fz (.list (D.map .str))), some (.fz (.list (cs.map .int))), some (.fz (.list (ms.map .int))), some (.loc h.length), none, none, none, none, none, none] h1
      ∧ ZH h1 h.length zs ∧ (zs.map fun x => zkey x.z).Nodup ∧ (∀ x ∈ zs, GdZ D x.z ∧ x.z.rows = []) ∧ zs.length ≤ 8 ∧ 1 ≤ zs.length) PyData.int
      (fun r ρ h1 => ∃ zs : List ZK, ρ = [some (.fz (.list (W.map .str))), some (.fz (.list (D.map .str))), some (.fz (.list (cs.map .int))), some (.fz (.list (ms.map .int))), some (.loc h.length), none, none, none, none, none, none]
      ∧ ZH h1 h.length zs ∧ (zs.map fun x => zkey x.z).Nodup ∧ (∀ x ∈ zs, GdZ D x.z ∧ x.z.rows = []) ∧ zs.length + r.length ≤ 8 ∧ (1 ≤ zs.length ∨ 1 ≤ r.length)) cs ?_ ?_ ?_ ?_
    · simp
    · refine ⟨[], rfl, ⟨by simp, by simp, by simp⟩, by simp, by simp, by simpa using hc', .inr hc⟩
    · rintro ρ h1 ⟨zs, rfl, a1, a2, a3, a4, a5⟩
      exact ⟨zs, h1, rfl, a1, a2, a3, by simpa using a4, by simpa using a5⟩
    · rintro c r ρ h1 ⟨zs, rfl, a1, a2, a3, a4, a5⟩
      refine ⟨_, rfl, ?_⟩
      simp only [List.set_cons_succ, List.set_cons_zero]
      have pd := r_part c 0 3 (by omega)
      obtain ⟨d, hd, ad⟩ := at_strs D (part c 0 3) (part_lo _ _ _ (by omega)) (by have := part_hi c 0 3 (by omega); omega)
      have p20 := r_part c 20 4 (by omega)
      obtain ⟨N, b0, b1, _⟩ := r_below W hW c 1 (part c 20 4) (part_lo _ _ _ (by omega)) (by have := part_hi c 20 4 (by omega); omega)
      have hN : N.length ≤ 3 := by have := part_hi c 20 4 (by omega); omega
      have em : binD .mul (.int c) (.int 40692) = .ok (.int (c * 40692)) := if_pos (.inr (by omega))
      have hl0 : zs.length < 1000 := by simp at a4; omega
      have he : xv PT q_l_zones e0_l_zones [some (.fz (.list (W.map .str))), some (.fz (.list (D.map .str))), some (.fz (.list (cs.map .int))), some (.fz (.list (ms.map .int))), some (.loc h.length), some (.fz (.int c)), some (.fz (.str d)), some (.fz (nm N)), none, none, none] h1
          = .ok (.loc h1.length) (h1 ++ [.lst ((zs.filter fun x => decide (x.z.door = d) && decide (x.z.top = N)).map zkA)]) := by
        refine xlc_x (k := h.length) zkA zs _ zkA (by simp) a1.lst hl0 fun x hx acc => ⟨_, rfl, ?_, fun _ => by simp⟩
        by_cases g : x.z.door = d
        · simp [zk_ix0, zk_ix1, g]
        · simp [zk_ix0, zk_ix1, g]
      have a1' := zh_pre a1 (List.prefix_append h1 [.lst ((zs.filter fun x => decide (x.z.door = d) && decide (x.z.top = N)).map zkA)])
      have erd : rd (h1 ++ [.lst ((zs.filter fun x => decide (x.z.door = d) && decide (x.z.top = N)).map zkA)]) (.loc h1.length) = some (.list ((zs.filter fun x => decide (x.z.door = d) && decide (x.z.top = N)).map fun x => znD x.z)) :=
        rdA_lst zkA (fun x => znD x.z) (last_cell _ _) fun x hx => zk_rd a1' (List.mem_filter.mp hx).1 5
      have ec : cmpD .eq (.list ((zs.filter fun x => decide (x.z.door = d) && decide (x.z.top = N)).map fun x => znD x.z)) (.list []) = .ok (decide ((zs.filter fun x => decide (x.z.door = d) && decide (x.z.top = N)).map (·.z) = [])) := by
        have := encZn.lst.eq (by decide) ((zs.filter fun x => decide (x.z.door = d) && decide (x.z.top = N)).map (·.z)) []
        simpa only [List.map_map, Function.comp_def, List.map_nil] using this
      have eK := cmpK_eq erd (rd_fz _ (.list [])) ec
      by_cases g : (zs.filter fun x => decide (x.z.door = d) && decide (x.z.top = N)).map (·.z) = []
      · rw [decide_eq_true g] at eK
        generalize hh2 : h1 ++ [Cell.lst ((zs.filter fun x => decide (x.z.door = d) && decide (x.z.top = N)).map zkA)] = h2 at *
        have er := recv_loc a1'.lst
        have hz : (h2 ++ [Cell.lst []])[h.length]? = some (.lst (zs.map zkA)) := pre_lst (List.prefix_append h2 _) a1'.lst
        have ea := app_loc hz (by simp; omega) (zkA ⟨⟨d, N, c * 40692 % 999999937, []⟩, h2.length⟩)
        have et : mkT [.fz (.str d), .fz (nm N), .fz (.int (c * 40692 % 999999937)), .loc h2.length] = zkA ⟨⟨d, N, c * 40692 % 999999937, []⟩, h2.length⟩ := rfl
        have hb : exXs PT q_l_zones v0_l_zones [some (.fz (.list (W.map .str))), some (.fz (.list (D.map .str))), some (.fz (.list (cs.map .int))), some (.fz (.list (ms.map .int))), some (.loc h.length), some (.fz (.int c)), none, none, none, none, none] h1
            = .nx [some (.fz (.list (W.map .str))), some (.fz (.list (D.map .str))), some (.fz (.list (cs.map .int))), some (.fz (.list (ms.map .int))), some (.loc h.length), some (.fz (.int c)), some (.fz (.str d)), some (.fz (nm N)), none, none, none] ((h2 ++ [Cell.lst []]).set h.length (.lst (zs.map zkA ++ [zkA ⟨⟨d, N, c * 40692 % 999999937, []⟩, h2.length⟩]))) := by
          simp [v0_l_zones, pd, ad, p20, b0, he, eK, er, m1K, tupK, lstK, em, bin_mod, et, ea]
        rw [hb]
        refine ⟨zs ++ [⟨⟨d, N, c * 40692 % 999999937, []⟩, h2.length⟩], rfl, zh_add a1' _ rfl rfl, ?_, ?_, by simp at a4 ⊢; omega, .inl (by simp)⟩
        · rw [List.map_append, List.nodup_append]
          refine ⟨a2, by simp, fun u hu v hv => ?_⟩
          obtain ⟨x, hx, rfl⟩ := List.mem_map.mp hu
          simp only [List.map_cons, List.map_nil, List.mem_singleton] at hv
          subst hv
          intro e
          simp only [zkey, Prod.mk.injEq] at e
          rw [List.map_eq_nil_iff, List.filter_eq_nil_iff] at g
          exact g x hx (by simp [e.1, e.2])
        · intro x hx
          rcases List.mem_append.mp hx with hx | hx
          · exact a3 x hx
          · rw [List.mem_singleton] at hx
            subst hx
            exact ⟨⟨hd, hN, by simp⟩, rfl⟩
      · rw [decide_eq_false g] at eK
        generalize hh2 : h1 ++ [Cell.lst ((zs.filter fun x => decide (x.z.door = d) && decide (x.z.top = N)).map zkA)] = h2 at *
        have hb : exXs PT q_l_zones v0_l_zones [some (.fz (.list (W.map .str))), some (.fz (.list (D.map .str))), some (.fz (.list (cs.map .int))), some (.fz (.list (ms.map .int))), some (.loc h.length), some (.fz (.int c)), none, none, none, none, none] h1
            = .nx [some (.fz (.list (W.map .str))), some (.fz (.list (D.map .str))), some (.fz (.list (cs.map .int))), some (.fz (.list (ms.map .int))), some (.loc h.length), some (.fz (.int c)), some (.fz (.str d)), some (.fz (nm N)), none, none, none] h2 := by
          simp [v0_l_zones, pd, ad, p20, b0, he, eK]
        rw [hb]
        refine ⟨zs, rfl, a1', a2, a3, by simp at a4 ⊢; omega, .inl ?_⟩
        cases zs with
        | nil => simp at g
        | cons x xs => simp
  obtain ⟨zs0, h1, e0, z1, z2, z3, z4, z5⟩ := w0
  have w1 : ∃ (zs : List ZK) (h2 : Hc), exX PT q_l_zones w1_l_zones [some (.fz (.list (W.map .str))), some (.fz (.list (D.map .str))), some (.fz (.list (cs.map .int))), some (.fz (.list (ms.map .int))), some (.loc h.length), none, none, none, none, none, none] h1
        = .nx [some (.fz (.list (W.map .str))), some (.fz (.list (D.map .str))), some (.fz (.list (cs.map .int))), some (.fz (.list (ms.map .int))), some (.loc h.length), none, none, none, none, none, none] h2
      ∧ ZH h2 h.length zs ∧ (zs.map fun x => zkey x.z).Nodup ∧ (∀ x ∈ zs, GdZ D x.z ∧ x.z.rows.length ≤ ms.length) ∧ zs.length ≤ 8 ∧ 1 ≤ zs.length := by
    refine xfor_rule (Q := fun o => ∃ (zs : List ZK) (h2 : Hc), o = .nx [some (.fz (.list (W.map .str))), some (.fz (.list (D.map .str))), some (.fz (.list (cs.map .int))), some (.fz (.list (ms.map .int))), some (.loc h.length), none, none, none, none, none, none] h2
      ∧ ZH h2 h.length zs ∧ (zs.map fun x => zkey x.z).Nodup ∧ (∀ x ∈ zs, GdZ D x.z ∧ x.z.rows.length ≤ ms.length) ∧ zs.length ≤ 8 ∧ 1 ≤ zs.length) PyData.int
      (fun r ρ h1 => ∃ zs : List ZK, ρ = [some (.fz (.list (W.map .str))), some (.fz (.list (D.map .str))), some (.fz (.list (cs.map .int))), some (.fz (.list (ms.map .int))), some (.loc h.length), none, none, none, none, none, none]
      ∧ ZH h1 h.length zs ∧ (zs.map fun x => zkey x.z).Nodup ∧ (∀ x ∈ zs, GdZ D x.z ∧ x.z.rows.length + r.length ≤ ms.length) ∧ zs.length ≤ 8 ∧ 1 ≤ zs.length) ms ?_ ?_ ?_ ?_
    · simp
    · exact ⟨zs0, rfl, z1, z2, fun x hx => ⟨(z3 x hx).1, by rw [(z3 x hx).2]; simp⟩, z4, z5⟩
    · rintro ρ h1 ⟨zs, rfl, a1, a2, a3, a4, a5⟩
      exact ⟨zs, h1, rfl, a1, a2, by simpa using a3, a4, a5⟩
    · rintro c r ρ h1 ⟨zs, rfl, a1, a2, a3, a4, a5⟩
      refine ⟨_, rfl, ?_⟩
      simp only [List.set_cons_succ, List.set_cons_zero]
      have p16 := r_part c 16 (zs.length : Int) (by omega)
      have l16 := part_lo c 16 (zs.length : Int) (by omega)
      have u16 := part_hi c 16 (zs.length : Int) (by omega)
      generalize part c 16 (zs.length : Int) = q at *
      obtain ⟨i, rfl⟩ := Int.eq_ofNat_of_zero_le l16
      have hi : i < zs.length := by omega
      have hxi : zs[i] ∈ zs := List.getElem_mem hi
      have exi : (zs.map zkA)[i]? = some (zkA zs[i]) := by simp [hi]
      generalize zs[i] = x at *
      have eln := lenA_loc a1.lst
      have ec5 : caldR f_l_part [.fz (.int c), .fz (.int 16), .fz (.int (zs.length : Int))] h1 = .ok (.fz (.int (i : Int))) h1 := calD (rdAll_fz _ [.int c, .int 16, .int (zs.length : Int)]) p16 rfl
      have eix : ixA (.loc h.length) (.fz (.int (i : Int))) h1 = .ok (zkA x) h1 := by rw [ixA_loc a1.lst, atI_nat, exi]; rfl
      obtain ⟨g1, g2⟩ := a3 x hxi
      have ht := g1.top
      obtain ⟨R, r1, r2, r3⟩ := r_row W hW x.z.top (by omega) c
      have ec10 : caldR f_l_row [.fz (.list (W.map .str)), .fz (nm x.z.top), .fz (.int c)] h1 = .ok (.fz (rowD R)) h1 := calD (rdAll_fz _ [.list (W.map .str), nm x.z.top, .int c]) r1 (lfree_row R)
      obtain ⟨b, hb⟩ := r_fits x.z.rows R x.z.top r2
      have ec11 : caldR f_l_fits [.loc x.k, .fz (rowD R), .fz (nm x.z.top)] h1 = .ok (.fz (.bool b)) h1 := calD (rdAll_cons (rdA_flat (a1.row x hxi) 7) (rdAll_fz _ [rowD R, nm x.z.top])) hb rfl
      have hl2 : ((x.z.rows.map rowD).map AV.fz).length < 1000000 := by simp at g2 ⊢; omega
      have eap : m1K .append PT q_l_zones (.p (.var 9)) [some (.fz (.list (W.map .str))), some (.fz (.list (D.map .str))), some (.fz (.list (cs.map .int))), some (.fz (.list (ms.map .int))), some (.loc h.length), some (.fz (.int c)), none, none, some (zkA x), some (.fz (rowD R)), none] (.loc x.k) h1 = .ok (.fz .none) (h1.set x.k (.lst ((x.z.rows.map rowD).map .fz ++ [.fz (rowD R)]))) := m1K_app (a1.row x hxi) hl2 (by simp)
      cases b with
      | true =>
        have hb : exXs PT q_l_zones v1_l_zones [some (.fz (.list (W.map .str))), some (.fz (.list (D.map .str))), some (.fz (.list (cs.map .int))), some (.fz (.list (ms.map .int))), some (.loc h.length), some (.fz (.int c)), none, none, none, none, none] h1
            = .nx [some (.fz (.list (W.map .str))), some (.fz (.list (D.map .str))), some (.fz (.list (cs.map .int))), some (.fz (.list (ms.map .int))), some (.loc h.length), some (.fz (.int c)), none, none, some (zkA x), some (.fz (rowD R)), none] (h1.set x.k (.lst ((x.z.rows.map rowD).map .fz ++ [.fz (rowD R)]))) := by
          simp [v1_l_zones, eln, ec5, eix, zk_ix1, zk_ix3, ec10, ec11, eap]
        rw [hb]
        refine ⟨zs.map (zput x.k R), rfl, zh_put a1 hxi R, ?_, ?_, by simpa using a4, by simpa using a5⟩
        · rw [List.map_map]
          have : (zs.map ((fun x => zkey x.z) ∘ zput x.k R)) = zs.map fun x => zkey x.z := List.map_congr_left fun y _ => zput_key _ _ y
          rw [this]
          exact a2
        · intro y hy
          obtain ⟨u, hu, rfl⟩ := List.mem_map.mp hy
          obtain ⟨v1, v2⟩ := a3 u hu
          by_cases e : u.k = x.k
          · have hn := a1.nd
            rw [List.nodup_cons] at hn
            have eu : u = x := nodup_inj (·.k) hn.2 hu hxi e
            subst eu
            have ez : zput u.k R u = ⟨{ u.z with rows := u.z.rows ++ [R] }, u.k⟩ := by unfold zput; rw [if_pos rfl]
            rw [ez]
            refine ⟨⟨v1.door, v1.top, fun w hw => ?_⟩, by simp at v2 ⊢; omega⟩
            rcases List.mem_append.mp hw with hw | hw
            · exact v1.row w hw
            · rw [List.mem_singleton] at hw
              subst hw
              exact ⟨r2, r3⟩
          · have : zput x.k R u = u := by unfold zput; rw [if_neg e]
            rw [this]
            exact ⟨v1, by simp at v2; omega⟩
      | false =>
        have hb : exXs PT q_l_zones v1_l_zones [some (.fz (.list (W.map .str))), some (.fz (.list (D.map .str))), some (.fz (.list (cs.map .int))), some (.fz (.list (ms.map .int))), some (.loc h.length), some (.fz (.int c)), none, none, none, none, none] h1
            = .nx [some (.fz (.list (W.map .str))), some (.fz (.list (D.map .str))), some (.fz (.list (cs.map .int))), some (.fz (.list (ms.map .int))), some (.loc h.length), some (.fz (.int c)), none, none, some (zkA x), some (.fz (rowD R)), none] h1 := by
          simp [v1_l_zones, eln, ec5, eix, zk_ix1, zk_ix3, ec10, ec11]
        rw [hb]
        exact ⟨zs, rfl, a1, a2, fun y hy => ⟨(a3 y hy).1, by have := (a3 y hy).2; simp at this; omega⟩, a4, a5⟩
  obtain ⟨zs, h2, e1, y1, y2, y3, y4, y5⟩ := w1
  obtain ⟨h3, e3⟩ := zh_frz y1
  refine ⟨zs.map (·.z), h3, ?_, by simpa using y5, by simpa using y4, by simpa only [List.map_map, Function.comp_def] using y2, fun z hz => ?_⟩
  · refine rX_ret ?_
    have em : (zs.map (·.z)).map znD = zs.map fun x => znD x.z := by rw [List.map_map]; rfl
    rw [em]
    simp [b_l_zones, lstK, e0, e1, frzR, e3]
  · obtain ⟨x, hx, rfl⟩ := List.mem_map.mp hz
    exact y3 x hx
/-- the houses as data: doors in order, each with its zones -/
def hens (L : List (Str × List Zn)) (d : Str) : List (Str × List Zn) := if L.any (fun e => decide (e.1 = d)) then L else L ++ [(d, [])]
def hupd (z : Zn) (e : Str × List Zn) : Str × List Zn := if e.1 = z.door then (e.1, e.2 ++ [z]) else e
def padd (L : List (Str × List Zn)) (z : Zn) : List (Str × List Zn) := (hens L z.door).map (hupd z)
def housesP (Z : List Zn) : List (Str × List Zn) := Z.foldl padd []
def atP (L : List (Str × List Zn)) (d : Str) : List Zn := ((L.find? fun e => decide (e.1 = d)).map (·.2)).getD []
theorem hupd_1 (z : Zn) (e : Str × List Zn) : (hupd z e).1 = e.1 := by unfold hupd; split <;> rfl
theorem hens_keys (L : List (Str × List Zn)) (d : Str) (h : (L.map (·.1)).Nodup) : ((hens L d).map (·.1)).Nodup ∧ ∃ e ∈ hens L d, e.1 = d := by
  unfold hens
  by_cases g : L.any (fun e => decide (e.1 = d)) = true
  · rw [if_pos g]
    refine ⟨h, ?_⟩
    rw [List.any_eq_true] at g
    obtain ⟨e, he, hd⟩ := g
    exact ⟨e, he, of_decide_eq_true hd⟩
  · rw [if_neg g]
    refine ⟨?_, (d, []), by simp, rfl⟩
    rw [List.map_append, List.nodup_append]
    refine ⟨h, by simp, fun a ha b hb => ?_⟩
    simp only [List.map_cons, List.map_nil, List.mem_singleton] at hb
    subst hb
    obtain ⟨e, he, rfl⟩ := List.mem_map.mp ha
    intro q
    exact g (List.any_eq_true.mpr ⟨e, he, decide_eq_true q⟩)
theorem padd_keys (L : List (Str × List Zn)) (z : Zn) (h : (L.map (·.1)).Nodup) : ((padd L z).map (·.1)).Nodup := by
  have e : (padd L z).map (·.1) = (hens L z.door).map (·.1) := by
    unfold padd
    rw [List.map_map]
    exact List.map_congr_left fun e _ => hupd_1 z e
  rw [e]
  exact (hens_keys L z.door h).1
theorem at_hens (L : List (Str × List Zn)) (d0 d : Str) : atP (hens L d0) d = atP L d := by
  unfold hens
  split
  · rfl
  · unfold atP
    rw [List.find?_append]
    cases q : L.find? fun e => decide (e.1 = d) with
    | some e => rfl
    | none =>
      by_cases g : d0 = d
      · simp [g]
      · simp [g]
theorem at_upd (L : List (Str × List Zn)) (z : Zn) (d : Str) (h : ∃ e ∈ L, e.1 = z.door) : atP (L.map (hupd z)) d = atP L d ++ (if z.door = d then [z] else []) := by
  unfold atP
  rw [List.find?_map]
  have e0 : ((fun e : Str × List Zn => decide (e.1 = d)) ∘ hupd z) = fun e => decide (e.1 = d) := by
    funext e
    simp only [Function.comp_def, hupd_1]
  rw [e0]
  cases q : L.find? fun e => decide (e.1 = d) with
  | none =>
    rw [List.find?_eq_none] at q
    have : z.door ≠ d := fun g => by
      obtain ⟨e, he, hd⟩ := h
      exact q e he (decide_eq_true (hd.trans g))
    simp [this]
  | some e =>
    have hd : e.1 = d := by
      have := List.find?_some q
      exact of_decide_eq_true this
    by_cases g : z.door = d
    · simp [g, hupd, hd]
    · have : e.1 ≠ z.door := fun w => g (w.symm.trans hd)
      simp [g, hupd, this]
theorem at_padd (L : List (Str × List Zn)) (z : Zn) (d : Str) (h : (L.map (·.1)).Nodup) : atP (padd L z) d = atP L d ++ (if z.door = d then [z] else []) := by
  unfold padd
  rw [at_upd _ z d (hens_keys L z.door h).2, at_hens]
theorem fold_padd : ∀ (Z : List Zn) (L : List (Str × List Zn)), (L.map (·.1)).Nodup → ((Z.foldl padd L).map (·.1)).Nodup ∧ ∀ d, atP (Z.foldl padd L) d = atP L d ++ Z.filter fun z => decide (z.door = d)
  | [], L, h => ⟨h, fun d => by simp⟩
  | z :: Z, L, h => by
    obtain ⟨h1, h2⟩ := fold_padd Z (padd L z) (padd_keys L z h)
    refine ⟨h1, fun d => ?_⟩
    rw [List.foldl_cons, h2, at_padd L z d h]
    by_cases g : z.door = d <;> simp [List.filter_cons, g]
theorem at_houses (Z : List Zn) (d : Str) : atP (housesP Z) d = Z.filter fun z => decide (z.door = d) := by
  have := (fold_padd Z [] (by simp)).2 d
  simpa [housesP, atP] using this
theorem houses_keys (Z : List Zn) : ((housesP Z).map (·.1)).Nodup := (fold_padd Z [] (by simp)).1
structure HK where
  e : Str × List Zn
  k : Nat
def hkA (x : HK) : Str × AV := (x.e.1, .loc x.k)
structure HH (h : Hc) (n : Nat) (H : List HK) : Prop where
  dct : h[n]? = some (.dct (H.map hkA))
  lst : ∀ x ∈ H, h[x.k]? = some (.lst ((x.e.2.map zoD).map .fz))
  nd : (n :: H.map (·.k)).Nodup
def hsP (L : List (Str × List Zn)) : Dat := .dict (L.map fun e => (PyData.str e.1, .list (e.2.map zoD)))
theorem hh_rd {h : Hc} {n : Nat} {H : List HK} (q : HH h n H) : rd h (.loc n) = some (hsP (H.map (·.e))) := by
  have := rdA_dct (h := h) (n := n) (f := 8) (fun x : HK => x.e.1) (fun x => .loc x.k) (fun x => .list (x.e.2.map zoD)) q.dct fun x hx => rdA_flat (q.lst x hx) 6
  unfold rd hsP
  rw [this, List.map_map]
  rfl
theorem hh_pre {h h' : Hc} {n : Nat} {H : List HK} (q : HH h n H) (p : h <+: h') : HH h' n H := ⟨pre_lst p q.dct, fun x hx => pre_lst p (q.lst x hx), q.nd⟩
theorem hh_lt {h : Hc} {n : Nat} {H : List HK} (q : HH h n H) : n < h.length ∧ ∀ x ∈ H, x.k < h.length := ⟨(List.getElem?_eq_some_iff.mp q.dct).1, fun x hx => (List.getElem?_eq_some_iff.mp (q.lst x hx)).1⟩
theorem lk_hk (H : List HK) (d : Str) : lkA (H.map hkA) d = (H.find? fun x => decide (x.e.1 = d)).map fun x => AV.loc x.k := by
  induction H with
  | nil => rfl
  | cons x H ih =>
    simp only [List.map_cons, hkA, lkA, List.find?_cons]
    by_cases g : x.e.1 = d
    · simp [g]
    · simp only [g, if_false, decide_false]
      exact ih
theorem hh_new {h : Hc} {n : Nat} {H : List HK} (q : HH h n H) (d : Str) : HH ((h ++ [Cell.lst []]).set n (.dct (H.map hkA ++ [(d, .loc h.length)]))) n (H ++ [⟨(d, []), h.length⟩]) := by
  have hl := hh_lt q
  have hn := q.nd
  rw [List.nodup_cons] at hn
  refine ⟨?_, fun y hy => ?_, ?_⟩
  · rw [List.getElem?_set_self (by simp; omega)]
    simp [hkA]
  · rcases List.mem_append.mp hy with hy | hy
    · have hz : n ≠ y.k := fun z => hn.1 (by rw [z]; exact List.mem_map_of_mem hy)
      rw [List.getElem?_set_ne hz, List.getElem?_append_left (hl.2 y hy)]
      exact q.lst y hy
    · rw [List.mem_singleton] at hy
      subst hy
      rw [List.getElem?_set_ne (by show n ≠ h.length; omega)]
      simp
  · have e : n :: (H ++ [(⟨(d, []), h.length⟩ : HK)]).map (·.k) = (n :: H.map (·.k)) ++ [h.length] := by simp
    rw [e, List.nodup_append]
    refine ⟨q.nd, by simp, fun a ha b hb => ?_⟩
    rw [List.mem_singleton] at hb
    subst hb
    rcases List.mem_cons.mp ha with ha | ha
    · omega
    · obtain ⟨y, hy, rfl⟩ := List.mem_map.mp ha
      have := hl.2 y hy
      omega
def hset (k : Nat) (v : List Zn) (y : HK) : HK := if y.k = k then ⟨(y.e.1, v), y.k⟩ else y
theorem hset_k (k : Nat) (v : List Zn) (y : HK) : (hset k v y).k = y.k := by unfold hset; split <;> rfl
theorem hset_A (k : Nat) (v : List Zn) (y : HK) : hkA (hset k v y) = hkA y := by unfold hset; split <;> rfl
theorem hh_put {h : Hc} {n : Nat} {H : List HK} (q : HH h n H) {x : HK} (hx : x ∈ H) (v : List Zn) : HH (h.set x.k (.lst ((v.map zoD).map .fz))) n (H.map (hset x.k v)) := by
  have hl := hh_lt q
  have hn := q.nd
  rw [List.nodup_cons] at hn
  have ek : (H.map (hset x.k v)).map (·.k) = H.map (·.k) := by rw [List.map_map]; exact List.map_congr_left fun y _ => hset_k _ _ y
  have ea : (H.map (hset x.k v)).map hkA = H.map hkA := by rw [List.map_map]; exact List.map_congr_left fun y _ => hset_A _ _ y
  have hz : x.k ≠ n := fun z => hn.1 (by rw [← z]; exact List.mem_map_of_mem hx)
  refine ⟨?_, fun y hy => ?_, by rw [ek]; exact q.nd⟩
  · rw [List.getElem?_set_ne hz, ea]
    exact q.dct
  · obtain ⟨u, hu, rfl⟩ := List.mem_map.mp hy
    by_cases e : u.k = x.k
    · have eu : u = x := nodup_inj (·.k) hn.2 hu hx e
      subst eu
      rw [hset_k, List.getElem?_set_self (hl.2 u hu)]
      simp [hset]
    · rw [hset_k, List.getElem?_set_ne (Ne.symm e)]
      have : hset x.k v u = u := by unfold hset; rw [if_neg e]
      rw [this]
      exact q.lst u hu
theorem hset_upd {H : List HK} (hk : (H.map (·.k)).Nodup) (hd : ((H.map (·.e)).map (·.1)).Nodup) {x : HK} (hx : x ∈ H) (z : Zn) (e : x.e.1 = z.door) : (H.map (hset x.k (x.e.2 ++ [z]))).map (·.e) = (H.map (·.e)).map (hupd z) := by
  rw [List.map_map, List.map_map]
  refine List.map_congr_left fun y hy => ?_
  simp only [Function.comp_def, hset, hupd]
  by_cases g : y.k = x.k
  · have : y = x := nodup_inj (·.k) hk hy hx g
    subst this
    simp [e]
  · have : y.e.1 ≠ z.door := fun w => by
      rw [List.map_map] at hd
      have := nodup_inj (fun u : HK => u.e.1) hd hy hx (w.trans e.symm)
      exact g (by rw [this])
    rw [if_neg g, if_neg this]
theorem r_houses (Z : List Zn) (hZ : Z.length ≤ 100) (h : Hc) : ∃ (H : List HK) (h' : Hc), f_l_houses [.fz (.list (Z.map znD))] h = .ok (.loc h.length) h' ∧ h <+: h' ∧ HH h' h.length H ∧ H.map (·.e) = housesP Z := by
  have w0 : ∃ (H : List HK) (h1 : Hc), exX PT q_l_houses w0_l_houses [some (.fz (.list (Z.map znD))), some (.loc h.length), none, none, none, none] (h ++ [.dct []]) = .nx [some (.fz (.list (Z.map znD))), some (.loc h.length), none, none, none, none] h1 ∧ h <+: h1 ∧ HH h1 h.length H ∧ H.map (·.e) = housesP Z := by
    refine xfor_rule (Q := fun o => ∃ (H : List HK) (h1 : Hc), o = .nx [some (.fz (.list (Z.map znD))), some (.loc h.length), none, none, none, none] h1 ∧ h <+: h1 ∧ HH h1 h.length H ∧ H.map (·.e) = housesP Z) znD
      (fun r ρ h1 => ∃ (H : List HK) (L : List Zn), L ++ r = Z ∧ ρ = [some (.fz (.list (Z.map znD))), some (.loc h.length), none, none, none, none] ∧ h <+: h1 ∧ HH h1 h.length H ∧ H.map (·.e) = housesP L ∧ (∀ x ∈ H, h.length ≤ x.k) ∧ (∀ x ∈ H, x.e.2.length ≤ L.length) ∧ H.length ≤ L.length) Z ?_ ?_ ?_ ?_
    · simp
    · exact ⟨[], [], rfl, rfl, pre_app (List.prefix_refl h) _, ⟨by simp, by simp, by simp⟩, rfl, by simp, by simp, by simp⟩
    · rintro ρ h1 ⟨H, L, a0, rfl, a1, a2, a3, a4, a5, a6⟩
      rw [List.append_nil] at a0
      subst a0
      exact ⟨H, h1, rfl, a1, a2, a3⟩
    · rintro z r ρ h1 ⟨H, L, a0, rfl, a1, a2, a3, a4, a5, a6⟩
      have hLl : L.length + 1 ≤ 100 := by rw [← a0] at hZ; simp at hZ; omega
      refine ⟨[some (.fz (.list (Z.map znD))), some (.loc h.length), some (.fz (.str z.door)), some (.fz (nm z.top)), some (.fz (.int z.life)), some (.fz (.list (z.rows.map rowD)))], rfl, ?_⟩
      have kn : ((H.map (·.e)).map (·.1)).Nodup := by rw [a3]; exact houses_keys L
      have key : ∃ (H1 : List HK) (h2 : Hc), exX PT q_l_houses (.ifs (.din true (.p (.var 2)) (.v 1)) (.cons (.setd (.v 1) (.p (.var 2)) (.lst .nil)) .nil) .nil) [some (.fz (.list (Z.map znD))), some (.loc h.length), some (.fz (.str z.door)), some (.fz (nm z.top)), some (.fz (.int z.life)), some (.fz (.list (z.rows.map rowD)))] h1
          = .nx [some (.fz (.list (Z.map znD))), some (.loc h.length), some (.fz (.str z.door)), some (.fz (nm z.top)), some (.fz (.int z.life)), some (.fz (.list (z.rows.map rowD)))] h2 ∧ h <+: h2 ∧ HH h2 h.length H1 ∧ H1.map (·.e) = hens (housesP L) z.door ∧ (∀ x ∈ H1, h.length ≤ x.k) ∧ (∀ x ∈ H1, x.e.2.length ≤ L.length) ∧ H1.length ≤ L.length + 1 := by
        have lk := lk_hk H z.door
        cases q : H.find? fun x => decide (x.e.1 = z.door) with
        | some x =>
          rw [q] at lk
          have edin : dinK true (.fz (.str z.door)) (.loc h.length) h1 = .ok (.fz (.bool false)) h1 := by
            simp only [dinK, dinA, a2.dct, lk]
            rfl
          refine ⟨H, h1, by simp [edin], a1, a2, ?_, a4, a5, by omega⟩
          rw [a3]
          unfold hens
          rw [if_pos]
          rw [← a3, List.any_eq_true]
          exact ⟨x.e, List.mem_map_of_mem (List.mem_of_find?_eq_some q), by have := List.find?_some q; simpa using this⟩
        | none =>
          rw [q] at lk
          have edin : dinK true (.fz (.str z.door)) (.loc h.length) h1 = .ok (.fz (.bool true)) h1 := by
            simp only [dinK, dinA, a2.dct, lk]
            rfl
          have ha : (h1 ++ [Cell.lst []])[h.length]? = some (.dct (H.map hkA)) := pre_lst (List.prefix_append _ _) a2.dct
          have hHl : (H.map hkA).length < 1000000 := by simp; omega
          have eset : setdA (.loc h.length) (.fz (.str z.door)) (.loc h1.length) (h1 ++ [Cell.lst []]) = some ((h1 ++ [Cell.lst []]).set h.length (.dct (H.map hkA ++ [(z.door, .loc h1.length)]))) := by
            simp only [setdA, ha, hHl, if_true, putA, lk]
            rfl
          refine ⟨H ++ [⟨(z.door, []), h1.length⟩], _, by simp [edin, lstK, eset], pre_set (pre_app a1 _) (Nat.le_refl _) _, hh_new a2 z.door, ?_, ?_, ?_, by simp; omega⟩
          · rw [List.map_append, a3]
            unfold hens
            rw [if_neg]
            · rfl
            · rw [← a3, List.any_eq_true]
              rintro ⟨e, he, hd⟩
              obtain ⟨x, hx, rfl⟩ := List.mem_map.mp he
              rw [List.find?_eq_none] at q
              exact q x hx hd
          · intro x hx
            rcases List.mem_append.mp hx with hx | hx
            · exact a4 x hx
            · rw [List.mem_singleton] at hx
              subst hx
              obtain ⟨t, rfl⟩ := a1
              simp
          · intro x hx
            rcases List.mem_append.mp hx with hx | hx
            · exact a5 x hx
            · rw [List.mem_singleton] at hx
              subst hx
              simp
      obtain ⟨H1, h2, k1, k2, k3, k4, k5, k6, k7⟩ := key
      obtain ⟨kn1, e0, he0, hd0⟩ := hens_keys (housesP L) z.door (houses_keys L)
      rw [← k4] at he0 kn1
      obtain ⟨x0, hx0, rfl⟩ := List.mem_map.mp he0
      have lk : ∃ x ∈ H1, x.e.1 = z.door ∧ lkA (H1.map hkA) z.door = some (.loc x.k) := by
        rw [lk_hk]
        cases q : H1.find? fun x => decide (x.e.1 = z.door) with
        | none =>
          rw [List.find?_eq_none] at q
          exact absurd (decide_eq_true hd0) (q x0 hx0)
        | some x => exact ⟨x, List.mem_of_find?_eq_some q, by have := List.find?_some q; simpa using this, rfl⟩
      obtain ⟨x, hx, hxd, lk⟩ := lk
      have edix : dixA (.loc h.length) (.fz (.str z.door)) h2 = .ok (.loc x.k) h2 := by simp only [dixA, k3.dct, lk]
      have hxl : ((x.e.2.map zoD).map AV.fz).length < 1000000 := by have := k6 x hx; simp; omega
      have eap : m1K .append PT q_l_houses (.p (.tup (.cons (.var 3) (.cons (.var 4) (.cons (.bi .list (.cons (.var 5) .nil)) .nil))))) [some (.fz (.list (Z.map znD))), some (.loc h.length), some (.fz (.str z.door)), some (.fz (nm z.top)), some (.fz (.int z.life)), some (.fz (.list (z.rows.map rowD)))] (.loc x.k) h2
          = .ok (.fz .none) (h2.set x.k (.lst ((x.e.2.map zoD).map .fz ++ [.fz (zoD z)]))) := m1K_app (k3.lst x hx) hxl (by simp [zoD, zoneD])
      have e2 : (x.e.2.map zoD).map AV.fz ++ [.fz (zoD z)] = ((x.e.2 ++ [z]).map zoD).map .fz := by simp
      rw [e2] at eap
      have hb : exXs PT q_l_houses v0_l_houses [some (.fz (.list (Z.map znD))), some (.loc h.length), some (.fz (.str z.door)), some (.fz (nm z.top)), some (.fz (.int z.life)), some (.fz (.list (z.rows.map rowD)))] h1
          = .nx [some (.fz (.list (Z.map znD))), some (.loc h.length), some (.fz (.str z.door)), some (.fz (nm z.top)), some (.fz (.int z.life)), some (.fz (.list (z.rows.map rowD)))] (h2.set x.k (.lst (((x.e.2 ++ [z]).map zoD).map .fz))) := by
        unfold v0_l_houses
        rw [exXs_cons, k1]
        simp [edix, eap]
      rw [hb]
      refine ⟨H1.map (hset x.k (x.e.2 ++ [z])), L ++ [z], by rw [← a0]; simp, rfl, pre_set k2 (k5 x hx) _, hh_put k3 hx _, ?_, ?_, ?_, by simpa using k7⟩
      · have hn := k3.nd
        rw [List.nodup_cons] at hn
        rw [hset_upd hn.2 kn1 hx z hxd, k4]
        simp [housesP, padd]
      · intro y hy
        obtain ⟨u, hu, rfl⟩ := List.mem_map.mp hy
        rw [hset_k]
        exact k5 u hu
      · intro y hy
        obtain ⟨u, hu, rfl⟩ := List.mem_map.mp hy
        have h1 := k6 u hu
        have h2 := k6 x hx
        unfold hset
        split <;> simp <;> omega
  obtain ⟨H, h1, e1, e2, e3, e4⟩ := w0
  exact ⟨H, h1, rX_ret (by simp [b_l_houses, e1]), e2, e3, e4⟩
theorem r_at (a b : List Str) : f_p_at_or_beneath [nm a, nm b] = .ok (.bool (decide (a.take b.length = b))) := by
  simp [f_p_at_or_beneath, b_p_at_or_beneath, nm, cut_to, ← List.map_take, cmpEq _ _ (shOk_tup_strs _) (shOk_tup_strs _), eqv_tup_strs]
theorem zo_0 (z : Zn) : ixD (zoD z) (.int 0) = .ok (nm z.top) := by simp [zoD, zoneD, L2.atI, L2.ixN]
theorem zo_1 (z : Zn) : ixD (zoD z) (.int 1) = .ok (.int z.life) := by simp [zoD, zoneD, L2.atI, L2.ixN]
theorem zo_2 (z : Zn) : ixD (zoD z) (.int 2) = .ok (.list (z.rows.map rowD)) := by simp [zoD, zoneD, L2.atI, L2.ixN]
theorem lk_hs (L : List (Str × List Zn)) (d : Str) : lkD (L.map fun e => (PyData.str e.1, PyData.list (e.2.map zoD))) d = (L.find? fun e => decide (e.1 = d)).map fun e => .list (e.2.map zoD) := by
  induction L with
  | nil => rfl
  | cons x H ih =>
    simp only [List.map_cons, lkD, List.find?_cons]
    by_cases g : x.1 = d
    · simp [g]
    · simp only [g, if_false, decide_false]
      exact ih
theorem lk_at (L : List (Str × List Zn)) (d : Str) : (lkD (L.map fun e => (PyData.str e.1, PyData.list (e.2.map zoD))) d).getD (.list []) = .list ((atP L d).map zoD) := by
  rw [lk_hs]
  unfold atP
  cases L.find? fun e => decide (e.1 = d) <;> rfl
theorem r_zones_at (L : List (Str × List Zn)) (d : Str) : f_p_zones_at [hsP L, .str d] = .ok (.list ((atP L d).map zoD)) := by
  have e := lk_at L d
  unfold hsP
  simp only [f_p_zones_at, b_p_zones_at, runF, exSs, exS, List.map, List.replicate, List.length, ev, getS, varR]
  simp [ev, isDct, strD, e]
def optZ : Option Zn → Dat
  | none => .none
  | some z => zoD z
theorem r_kept (L : List (Str × List Zn)) (d : Str) (t : List Str) : f_p_kept [hsP L, .str d, nm t] = .ok (optZ ((atP L d).find? fun z => decide (z.top = t))) := by
  have hw : exS Q_p_kept w0_p_kept [.fz (hsP L), .fz (.str d), .fz (nm t), .un] = foundO zoD [.fz (hsP L), .fz (.str d), .fz (nm t), .un] ((atP L d).find? fun z => decide (z.top = t)) := by
    refine for_find zoD (atP L d) (fun z => decide (z.top = t)) zoD _ (by simp [r_zones_at]) rfl fun z _ => ⟨_, rfl, fun g => ?_, fun g => ⟨[.fz (hsP L), .fz (.str d), .fz (nm t), .fz (zoD z)], .inl ?_, rfl⟩⟩
    · have g := of_decide_eq_true g
      have c := cmp_nm z.top t
      rw [decide_eq_true g] at c
      simp [-ixD, v0_p_kept, zo_0, zo_1, zo_2, c]
      rfl
    · have g := of_decide_eq_false g
      have c := cmp_nm z.top t
      rw [decide_eq_false g] at c
      simp [-ixD, v0_p_kept, zo_0, c]
  cases q : (atP L d).find? fun z => decide (z.top = t) with
  | none =>
    rw [q] at hw
    simp [f_p_kept, b_p_kept, hw, foundO, optZ]
  | some z =>
    rw [q] at hw
    simp [f_p_kept, b_p_kept, hw, foundO, optZ]

def optN : Option (List Str) → Dat
  | none => .none
  | some t => nm t
/-- the longest top at or above a name, the first of these -/
def betT (n : List Str) (b : Option (List Str)) (t : List Str) : Option (List Str) := if n.take t.length = t ∧ (∀ u ∈ b, u.length < t.length) then some t else b
def bestT (Q : List Zn) (n : List Str) : Option (List Str) := Q.foldl (fun b z => betT n b z.top) none
theorem bestT_spec (n : List Str) : ∀ (Q : List Zn) (b : Option (List Str)), (∀ u ∈ b, n.take u.length = u) →
    (∀ u ∈ Q.foldl (fun b z => betT n b z.top) b, n.take u.length = u ∧ (u ∈ b ∨ ∃ z ∈ Q, z.top = u)) ∧
    (∀ v : List Str, ((v ∈ b) ∨ ∃ z ∈ Q, z.top = v ∧ n.take v.length = v) → ∃ u ∈ Q.foldl (fun b z => betT n b z.top) b, v.length ≤ u.length)
  | [], b, hb => ⟨fun u hu => ⟨hb u hu, .inl hu⟩, fun v hv => by
      rcases hv with hv | ⟨z, hz, _⟩
      · exact ⟨v, hv, Nat.le_refl _⟩
      · simp at hz⟩
  | z :: Q, b, hb => by
    rw [List.foldl_cons]
    have hb1 : ∀ u ∈ betT n b z.top, n.take u.length = u ∧ (u ∈ b ∨ z.top = u) := fun u hu => by
      unfold betT at hu
      split at hu
      · rename_i g
        simp only [Option.mem_def, Option.some.injEq] at hu
        subst hu
        exact ⟨g.1, .inr rfl⟩
      · exact ⟨hb u hu, .inl hu⟩
    have hb2 : ∀ v : List Str, (v ∈ b ∨ (z.top = v ∧ n.take v.length = v)) → ∃ u ∈ betT n b z.top, v.length ≤ u.length := fun v hv => by
      unfold betT
      by_cases g : n.take z.top.length = z.top ∧ (∀ u ∈ b, u.length < z.top.length)
      · rw [if_pos g]
        rcases hv with hv | hv
        · exact ⟨z.top, rfl, Nat.le_of_lt (g.2 v hv)⟩
        · exact ⟨z.top, rfl, by rw [hv.1]; exact Nat.le_refl _⟩
      · rw [if_neg g]
        rcases hv with hv | ⟨rfl, hv⟩
        · exact ⟨v, hv, Nat.le_refl _⟩
        · cases b with
          | none => exact absurd ⟨hv, by simp⟩ g
          | some u =>
            refine ⟨u, rfl, ?_⟩
            rcases Nat.lt_or_ge u.length z.top.length with w | w
            · exact absurd ⟨hv, by simpa using w⟩ g
            · exact w
    obtain ⟨i1, i2⟩ := bestT_spec n Q (betT n b z.top) fun u hu => (hb1 u hu).1
    refine ⟨fun u hu => ?_, fun v hv => ?_⟩
    · obtain ⟨j1, j2⟩ := i1 u hu
      refine ⟨j1, ?_⟩
      rcases j2 with j2 | ⟨y, hy, e⟩
      · rcases (hb1 u j2).2 with w | w
        · exact .inl w
        · exact .inr ⟨z, by simp, w⟩
      · exact .inr ⟨y, by simp [hy], e⟩
    · have hv' : v ∈ b ∨ (z.top = v ∧ n.take v.length = v) ∨ ∃ y ∈ Q, y.top = v ∧ n.take v.length = v := by
        rcases hv with hv | ⟨y, hy, e⟩
        · exact .inl hv
        · rcases List.mem_cons.mp hy with rfl | hy
          · exact .inr (.inl e)
          · exact .inr (.inr ⟨y, hy, e⟩)
      rcases hv' with hv | hv | hv
      · obtain ⟨u, hu, l⟩ := hb2 v (.inl hv)
        obtain ⟨u2, hu2, l2⟩ := i2 u (.inl hu)
        exact ⟨u2, hu2, by omega⟩
      · obtain ⟨u, hu, l⟩ := hb2 v (.inr hv)
        obtain ⟨u2, hu2, l2⟩ := i2 u (.inl hu)
        exact ⟨u2, hu2, by omega⟩
      · exact i2 v (.inr hv)
theorem best_some {Q : List Zn} {n u : List Str} (h : bestT Q n = some u) : n.take u.length = u ∧ (∃ z ∈ Q, z.top = u) ∧ ∀ z ∈ Q, n.take z.top.length = z.top → z.top.length ≤ u.length := by
  obtain ⟨h1, h2⟩ := bestT_spec n Q none (by simp)
  unfold bestT at h
  obtain ⟨a, b⟩ := h1 u (by rw [h]; rfl)
  refine ⟨a, by simpa using b, fun z hz e => ?_⟩
  obtain ⟨v, hv, l⟩ := h2 z.top (.inr ⟨z, hz, rfl, e⟩)
  rw [h] at hv
  cases hv
  exact l
theorem best_none {Q : List Zn} {n : List Str} (h : bestT Q n = none) : ∀ z ∈ Q, n.take z.top.length ≠ z.top := fun z hz e => by
  obtain ⟨h1, h2⟩ := bestT_spec n Q none (by simp)
  obtain ⟨v, hv, l⟩ := h2 z.top (.inr ⟨z, hz, rfl, e⟩)
  unfold bestT at h
  rw [h] at hv
  cases hv
def nearP (Q : List Zn) (n : List Str) : Option Zn := (bestT Q n).bind fun t => Q.find? fun z => decide (z.top = t)
theorem isN_optN (o : Option (List Str)) : cmpD .isN (optN o) .none = .ok (!o.isSome) := by cases o <;> rfl
theorem r_nearest (L : List (Str × List Zn)) (d : Str) (n : List Str) : f_p_nearest [hsP L, .str d, nm n] = .ok (optZ (nearP (atP L d) n)) := by
  have hw' : exS Q_p_nearest w0_p_nearest [.fz (hsP L), .fz (.str d), .fz (nm n), .fz .none, .un] = .nx [.fz (hsP L), .fz (.str d), .fz (nm n), .fz (optN (bestT (atP L d) n)), .un] := by
    refine (for_fold zoD (atP L d) (fun b : Option (List Str) => [.fz (hsP L), .fz (.str d), .fz (nm n), .fz (optN b), .un]) (fun b z => betT n b z.top) (fun _ _ => True) none (by simp [r_zones_at]) trivial rfl fun b z r _ _ => ⟨trivial, [.fz (hsP L), .fz (.str d), .fz (nm n), .fz (optN b), .fz (zoD z)], [.fz (hsP L), .fz (.str d), .fz (nm n), .fz (optN (betT n b z.top)), .fz (zoD z)], rfl, .inl ?_, rfl⟩).1
    have ha := r_at n z.top
    have hi := isN_optN b
    have el : ∀ m : List Str, biD .len [nm m] = .ok (.int m.length) := fun m => by simp only [biD, nm, List.length_map]
    unfold betT
    by_cases g1 : n.take z.top.length = z.top
    · rw [decide_eq_true g1] at ha
      cases b with
      | none =>
        simp only [optN] at hi
        simp [-ixD, v0_p_nearest, zo_0, ha, hi, g1, optN]
      | some u =>
        simp only [optN] at hi
        have el1 := el z.top
        have el2 := el u
        by_cases g2 : u.length < z.top.length
        · have g3 : (u.length : Int) < (z.top.length : Int) := by omega
          simp [-ixD, -biD, v0_p_nearest, zo_0, ha, hi, g1, optN, el1, el2, g2]
        · simp [-ixD, -biD, v0_p_nearest, zo_0, ha, hi, g1, optN, el1, el2, g2]
    · rw [decide_eq_false g1] at ha
      simp [-ixD, v0_p_nearest, zo_0, ha, g1]
  have hi := isN_optN (bestT (atP L d) n)
  unfold nearP
  cases q : bestT (atP L d) n with
  | none =>
    rw [q] at hi hw'
    simp only [optN] at hi hw'
    simp [f_p_nearest, b_p_nearest, hw', hi, optZ]
  | some t =>
    rw [q] at hi hw'
    simp only [optN] at hi hw'
    have hk := r_kept L d t
    simp [f_p_nearest, b_p_nearest, hw', hi, hk]
def optZn : Option Zn → Dat
  | none => .none
  | some z => znD z
def justP (Z : List Zn) (d : Str) (t : List Str) : Option Zn := Z.find? fun z => decide (z.door = d) && decide (z.top = t)
theorem just_at (Z : List Zn) (d : Str) (t : List Str) : (Z.filter fun z => decide (z.door = d)).find? (fun z => decide (z.top = t)) = justP Z d t := by
  rw [List.find?_filter]
  unfold justP
  refine congrArg (fun p => Z.find? p) ?_
  funext z
  simp
theorem r_just (Z : List Zn) (d : Str) (t : List Str) : f_l_just [.list (Z.map znD), .str d, nm t] = .ok (optZn (justP Z d t)) := by
  have hw : exS Q_l_just w0_l_just [.fz (.list (Z.map znD)), .fz (.str d), .fz (nm t), .un] = foundO znD [.fz (.list (Z.map znD)), .fz (.str d), .fz (nm t), .un] (justP Z d t) := by
    refine for_find znD Z (fun z => decide (z.door = d) && decide (z.top = t)) znD _ (by simp) rfl fun z _ => ⟨_, rfl, fun g => ?_, fun g => ⟨[.fz (.list (Z.map znD)), .fz (.str d), .fz (nm t), .fz (znD z)], .inl ?_, rfl⟩⟩
    · rw [Bool.and_eq_true] at g
      have c1 := cmp_nm z.top t
      have c0 : cmpD .eq (.str z.door) (.str d) = .ok (decide (z.door = d)) := encS.eq (by decide) _ _
      rw [g.1] at c0
      rw [g.2] at c1
      simp [-ixD, -cmp_eqs, v0_l_just, zn_0, zn_1, c0, c1]
    · rw [Bool.and_eq_false_iff] at g
      have c1 := cmp_nm z.top t
      have c0 : cmpD .eq (.str z.door) (.str d) = .ok (decide (z.door = d)) := encS.eq (by decide) _ _
      by_cases g1 : z.door = d
      · have g2 : decide (z.top = t) = false := by
          rcases g with g | g
          · exact absurd g1 (of_decide_eq_false g)
          · exact g
        rw [g2] at c1
        rw [decide_eq_true g1] at c0
        simp [-ixD, -cmp_eqs, v0_l_just, zn_0, zn_1, c0, c1]
      · rw [decide_eq_false g1] at c0
        simp [-ixD, -cmp_eqs, v0_l_just, zn_0, zn_1, c0]
  cases q : justP Z d t with
  | none =>
    rw [q] at hw
    simp [f_l_just, b_l_just, hw, optZn]
  | some z =>
    rw [q] at hw
    simp [f_l_just, b_l_just, hw, optZn]
def bstP (Z : List Zn) (d : Str) (n : List Str) (b : Option Zn) (s : Nat) : Option Zn := (justP Z d (n.take s)).or b
def lawBest (Z : List Zn) (d : Str) (n : List Str) : Option Zn := (List.range (n.length + 1)).foldl (bstP Z d n) none
theorem ntN_zn (o : Option Zn) : cmpD .ntN (optZn o) .none = .ok o.isSome := by cases o <;> rfl
theorem r_best (Z : List Zn) (d : Str) (n : List Str) (hn : n.length ≤ 1000) : f_l_best [.list (Z.map znD), .str d, nm n] = .ok (optZn (lawBest Z d n)) := by
  have hw : exS Q_l_best w0_l_best [.fz (.list (Z.map znD)), .fz (.str d), .fz (nm n), .fz .none, .un, .un] = .nx [.fz (.list (Z.map znD)), .fz (.str d), .fz (nm n), .fz (optZn (lawBest Z d n)), .un, .un] := by
    refine (for_fold (fun i : Nat => PyData.int (i : Int)) (List.range (n.length + 1)) (fun b : Option Zn => [.fz (.list (Z.map znD)), .fz (.str d), .fz (nm n), .fz (optZn b), .un, .un]) (bstP Z d n) (fun _ _ => True) none ?_ trivial rfl fun b s r _ _ => ⟨trivial, [.fz (.list (Z.map znD)), .fz (.str d), .fz (nm n), .fz (optZn b), .fz (.int (s : Int)), .un], [.fz (.list (Z.map znD)), .fz (.str d), .fz (nm n), .fz (optZn (bstP Z d n b s)), .fz (.int (s : Int)), .fz (optZn (justP Z d (n.take s)))], rfl, .inl ?_, rfl⟩).1
    · simp [nm]; exact r1R_nat1 (by omega)
    · have hj := r_just Z d (n.take s)
      have hi := ntN_zn (justP Z d (n.take s))
      have es : slD (nm n) none (some (s : Int)) = .ok (nm (n.take s)) := by simp only [slD, nm, cut_to, List.map_take]
      unfold bstP
      cases q : justP Z d (n.take s) with
      | none =>
        rw [q] at hj hi
        simp only [optZn] at hj hi
        simp [-slD, v0_l_best, es, hj, hi, optZn]
      | some z =>
        rw [q] at hj hi
        simp only [optZn] at hj hi
        simp [-slD, v0_l_best, es, hj, hi, optZn]
  simp [f_l_best, b_l_best, hw]
theorem bst_spec (Z : List Zn) (d : Str) (n : List Str) : ∀ m : Nat, (∀ z, (List.range m).foldl (bstP Z d n) none = some z → ∃ s, s < m ∧ justP Z d (n.take s) = some z ∧ ∀ s', s < s' → s' < m → justP Z d (n.take s') = none) ∧ ((List.range m).foldl (bstP Z d n) none = none → ∀ s, s < m → justP Z d (n.take s) = none)
  | 0 => ⟨fun z h => by simp at h, fun _ s h => by omega⟩
  | m + 1 => by
    obtain ⟨i1, i2⟩ := bst_spec Z d n m
    rw [List.range_succ, List.foldl_append, List.foldl_cons, List.foldl_nil]
    unfold bstP at i1 i2 ⊢
    cases q : justP Z d (n.take m) with
    | some z0 =>
      refine ⟨fun z h => ?_, fun h => by simp at h⟩
      simp only [Option.some_or, Option.some.injEq] at h
      subst h
      exact ⟨m, by omega, q, fun s' h1 h2 => by omega⟩
    | none =>
      simp only [Option.none_or]
      refine ⟨fun z h => ?_, fun h s hs => ?_⟩
      · obtain ⟨s, h1, h2, h3⟩ := i1 z h
        refine ⟨s, by omega, h2, fun s' g1 g2 => ?_⟩
        by_cases e : s' = m
        · rw [e]; exact q
        · exact h3 s' g1 (by omega)
      · by_cases e : s = m
        · rw [e]; exact q
        · exact i2 h s (by omega)
theorem near_best (Z : List Zn) (d : Str) (n : List Str) : nearP (Z.filter fun z => decide (z.door = d)) n = lawBest Z d n := by
  obtain ⟨s1, s2⟩ := bst_spec Z d n (n.length + 1)
  have jm : ∀ {t : List Str} {z : Zn}, justP Z d t = some z → z ∈ Z.filter (fun z => decide (z.door = d)) ∧ z.top = t := fun {t z} h => by
    rw [← just_at] at h
    exact ⟨List.mem_of_find?_eq_some h, by have := List.find?_some h; simpa using this⟩
  unfold nearP lawBest
  cases q : bestT (Z.filter fun z => decide (z.door = d)) n with
  | none =>
    have hb := best_none q
    cases q2 : (List.range (n.length + 1)).foldl (bstP Z d n) none with
    | none => rfl
    | some z =>
      obtain ⟨s, h1, h2, _⟩ := s1 z q2
      obtain ⟨h3, h4⟩ := jm h2
      refine absurd ?_ (hb z h3)
      rw [h4, List.length_take, Nat.min_eq_left (by omega)]
  | some t =>
    obtain ⟨b1, ⟨z0, b2, b2'⟩, b3⟩ := best_some q
    simp only [Option.bind_some]
    have hjt : ∃ z, justP Z d t = some z := by
      rw [← just_at]
      cases q3 : (Z.filter fun z => decide (z.door = d)).find? fun z => decide (z.top = t) with
      | none =>
        rw [List.find?_eq_none] at q3
        exact absurd (decide_eq_true b2') (q3 z0 b2)
      | some z => exact ⟨z, rfl⟩
    have htl : t.length ≤ n.length := by
      have := congrArg List.length b1
      rw [List.length_take] at this
      omega
    obtain ⟨zt, hzt⟩ := hjt
    rw [just_at, hzt]
    cases q2 : (List.range (n.length + 1)).foldl (bstP Z d n) none with
    | none =>
      have := s2 q2 t.length (by omega)
      rw [b1, hzt] at this
      cases this
    | some z =>
      obtain ⟨s, h1, h2, h2'⟩ := s1 z q2
      obtain ⟨h3, h4⟩ := jm h2
      have l1 : z.top.length = s := by rw [h4, List.length_take]; omega
      have l2 := b3 z h3 (by rw [l1, h4])
      have l3 : ¬ s < t.length := fun w => by
        have := h2' t.length w (by omega)
        rw [b1, hzt] at this
        cases this
      have : s = t.length := by omega
      rw [this, b1, hzt] at h2
      exact h2
def t3D (t : List Str × Int × List Row) : Dat := zoneD t.1 t.2.1 t.2.2
theorem encT3 : Enc t3D 4 := ⟨fun a b => by
    have h1 : PyData.eqv (nm a.1) (nm b.1) = decide (a.1 = b.1) := encN.eqv a.1 b.1
    have h2 := encR.lst.eqv a.2.2 b.2.2
    have e : PyData.eqv (t3D a) (t3D b) = (PyData.eqv (nm a.1) (nm b.1) && (PyData.eqv (.int a.2.1) (.int b.2.1) && (PyData.eqv (.list (a.2.2.map rowD)) (.list (b.2.2.map rowD)) && true))) := rfl
    rw [e, h1, h2, eqv_int]
    obtain ⟨a1, a2, a3⟩ := a
    obtain ⟨b1, b2, b3⟩ := b
    simp only [Prod.mk.injEq, Bool.and_true]
    rw [Bool.eq_iff_iff]
    simp, fun a => by
    have h1 : ndc (nm a.1) = true := encN.ndc a.1
    have h2 := encR.lst.ndc a.2.2
    have e : ndc (t3D a) = (ndc (nm a.1) && (true && (ndc (.list (a.2.2.map rowD)) && true))) := rfl
    rw [e, h1, h2]
    rfl, fun a => by
    refine depth_tup _ fun d hd => ?_
    simp only [List.mem_cons, List.not_mem_nil, or_false] at hd
    rcases hd with rfl | rfl | rfl
    · exact Nat.le_trans (encN.dep a.1) (by omega)
    · simp [PyData.depth]
    · exact encR.lst.dep a.2.2⟩
def zt (z : Zn) : List Str × Int × List Row := (z.top, z.life, z.rows)
theorem zoD_t (z : Zn) : zoD z = t3D (zt z) := rfl
theorem zo_eq (z : Zn) : cmpD .eq (zoD z) (zoD z) = .ok true := by
  have := encT3.eq (by decide) (zt z) (zt z)
  simpa [zoD_t] using this
theorem r_is_zone (z : Zn) : f_l_is_zone [zoD z, znD z] = .ok (.bool true) := by
  have h1 : cmpD .isN (znD z) .none = .ok false := rfl
  have h2 : isiD .tuple (zoD z) = .ok true := rfl
  have h3 : biD .len [zoD z] = .ok (.int 3) := rfl
  have h4 : isiD .list (.list (z.rows.map rowD)) = .ok true := rfl
  have h5 : isiD .tuple (nm z.top) = .ok true := rfl
  have h6 : isiD .bool (.int z.life) = .ok false := rfl
  have h7 : PyData.tuple [nm z.top, .int z.life, .list (z.rows.map rowD)] = zoD z := rfl
  simp [-ixD, -biD, -isiD, -nm, f_l_is_zone, b_l_is_zone, h1, h2, h3, h4, h5, h6, h7, zo_0, zo_1, zo_2, zn_1, zn_2, zn_3, zo_eq]
theorem r_is_zoneO (o : Option Zn) : f_l_is_zone [optZ o, optZn o] = .ok (.bool true) := by
  cases o with
  | some z => exact r_is_zone z
  | none => simp [f_l_is_zone, b_l_is_zone, optZ, optZn]; rfl
theorem lfrees_rows : ∀ R : List Row, lfrees (R.map rowD) = true
  | [] => rfl
  | r :: R => by simp only [List.map_cons, lfrees, lfree_row, lfrees_rows R, Bool.and_self]
def optA (k : Nat) : Option Zn → AV
  | none => .fz .none
  | some z => .tp [.fz (nm z.top), .fz (.int z.life), .loc k]
def optH (h : Hc) : Option Zn → Hc
  | none => h
  | some z => h ++ [.lst ((z.rows.map rowD).map .fz)]
theorem optH_pre (h : Hc) (o : Option Zn) : h <+: optH h o := by
  cases o with
  | none => exact List.prefix_refl h
  | some z => exact List.prefix_append _ _
theorem trk_opt (h : Hc) (o : Option Zn) : trkD (optZ o) h = .ok (optA h.length o) (optH h o) := by
  cases o with
  | none => rfl
  | some z =>
    have h1 : lfrees [nm z.top, .int z.life, .list (z.rows.map rowD)] = false := by simp [lfrees, lfree]
    have h2 : trkP [nm z.top, .int z.life, .list (z.rows.map rowD)] = some ([nm z.top, .int z.life], z.rows.map rowD, []) := by
      have h3 : trkP [.int z.life, .list (z.rows.map rowD)] = some ([.int z.life], z.rows.map rowD, []) := by
        have h4 : trkP [PyData.list (z.rows.map rowD)] = some ([], z.rows.map rowD, []) → trkP [.int z.life, .list (z.rows.map rowD)] = some ([.int z.life], z.rows.map rowD, []) := fun w => by
          simp only [trkP, lfree, if_true] at w ⊢
          rw [w]
        by_cases g : lfrees (z.rows.map rowD) = true
        · exact h4 (by simp [trkP, g, lfrees])
        · exact absurd (lfrees_rows z.rows) g
      simp only [trkP, lfree_nm, if_true] at h3 ⊢
      rw [h3]
    simp only [optZ, zoD, zoneD, trkD, h1, h2]
    rfl
theorem rd_opt (h : Hc) (o : Option Zn) : rd (optH h o) (optA h.length o) = some (optZ o) := by
  cases o with
  | none => exact rd_fz _ _
  | some z =>
    refine rdA_tp ?_
    have q := rdA_flat (h := optH h (some z)) (n := h.length) (ds := z.rows.map rowD) (by simp [optH]) 6
    have e3 : rdA (optH h (some z)) 8 (.fz (nm z.top)) = some (nm z.top) := rdA_fz _ 7 _
    have e4 : rdA (optH h (some z)) 8 (.fz (.int z.life)) = some (.int z.life) := rdA_fz _ 7 _
    simp only [rdL, e3, e4, q]
theorem r_all_told (Z : List Zn) (L : List (Str × List Zn)) (hL : ∀ d, atP L d = Z.filter fun z => decide (z.door = d)) (D : List Str) (N : List (List Str)) (hN : ∀ n ∈ N, n.length ≤ 1000) (h : Hc) (n : Nat) (hrd : rd h (.loc n) = some (hsP L)) :
    ∃ h', f_l_all_told [.loc n, .fz (.list (Z.map znD)), .fz (.list (D.map .str)), .fz (.list (N.map nm))] h = .ok (.fz (.bool true)) h' ∧ h <+: h' := by
  have inner : ∀ (d : Str) (h1 : Hc), h <+: h1 → ∃ h2, exX PT q_l_all_told w0_l_all_told [some (.loc n), some (.fz (.list (Z.map znD))), some (.fz (.list (D.map .str))), some (.fz (.list (N.map nm))), some (.fz (.str d)), none] h1
      = .nx [some (.loc n), some (.fz (.list (Z.map znD))), some (.fz (.list (D.map .str))), some (.fz (.list (N.map nm))), some (.fz (.str d)), none] h2 ∧ h <+: h2 := fun d h1 hp => by
    refine xfor_rule (Q := fun o => ∃ h2, o = .nx [some (.loc n), some (.fz (.list (Z.map znD))), some (.fz (.list (D.map .str))), some (.fz (.list (N.map nm))), some (.fz (.str d)), none] h2 ∧ h <+: h2) nm
      (fun r ρ h1 => ρ = [some (.loc n), some (.fz (.list (Z.map znD))), some (.fz (.list (D.map .str))), some (.fz (.list (N.map nm))), some (.fz (.str d)), none] ∧ h <+: h1 ∧ ∀ x ∈ r, x ∈ N) N ?_ ?_ ?_ ?_
    · simp
    · exact ⟨rfl, hp, fun _ h => h⟩
    · rintro ρ h1 ⟨rfl, a1, _⟩
      exact ⟨h1, rfl, a1⟩
    · rintro t r ρ h1 ⟨rfl, a1, a2⟩
      refine ⟨_, rfl, ?_⟩
      simp only [List.set_cons_succ, List.set_cons_zero]
      have ek := r_kept L d t
      rw [hL, just_at] at ek
      have ej := r_just Z d t
      generalize justP Z d t = o1 at *
      have en := r_nearest L d t
      rw [hL, near_best] at en
      have eb := r_best Z d t (hN t (a2 t (by simp)))
      generalize lawBest Z d t = o2 at *
      have c1 : caltR f_p_kept [.loc n, .fz (.str d), .fz (nm t)] h1 = .ok (optA h1.length o1) (optH h1 o1) := (calT (rdAll_cons (rd_pre a1 hrd) (rdAll_fz h1 [.str d, nm t])) ek).trans (trk_opt _ _)
      have p1 := optH_pre h1 o1
      have z1 : caldR f_l_is_zone [optA h1.length o1, .fz (optZn o1)] (optH h1 o1) = .ok (.fz (.bool true)) (optH h1 o1) := calD (rdAll_cons (rd_opt h1 o1) (rdAll_fz _ [optZn o1])) (r_is_zoneO o1) rfl
      generalize optH h1 o1 = h2 at *
      have c2 : caltR f_p_nearest [.loc n, .fz (.str d), .fz (nm t)] h2 = .ok (optA h2.length o2) (optH h2 o2) := (calT (rdAll_cons (rd_pre (a1.trans p1) hrd) (rdAll_fz h2 [.str d, nm t])) en).trans (trk_opt _ _)
      have p2 := optH_pre h2 o2
      have z2 : caldR f_l_is_zone [optA h2.length o2, .fz (optZn o2)] (optH h2 o2) = .ok (.fz (.bool true)) (optH h2 o2) := calD (rdAll_cons (rd_opt h2 o2) (rdAll_fz _ [optZn o2])) (r_is_zoneO o2) rfl
      generalize optH h2 o2 = h3 at *
      have hb : exXs PT q_l_all_told v0_l_all_told [some (.loc n), some (.fz (.list (Z.map znD))), some (.fz (.list (D.map .str))), some (.fz (.list (N.map nm))), some (.fz (.str d)), some (.fz (nm t))] h1
          = .nx [some (.loc n), some (.fz (.list (Z.map znD))), some (.fz (.list (D.map .str))), some (.fz (.list (N.map nm))), some (.fz (.str d)), some (.fz (nm t))] h3 := by
        simp [v0_l_all_told, c1, z1, c2, z2, ej, eb]
      rw [hb]
      exact ⟨rfl, (a1.trans p1).trans p2, fun x hx => a2 x (by simp [hx])⟩
  have outer : ∃ h2, exX PT q_l_all_told w1_l_all_told [some (.loc n), some (.fz (.list (Z.map znD))), some (.fz (.list (D.map .str))), some (.fz (.list (N.map nm))), none, none] h
      = .nx [some (.loc n), some (.fz (.list (Z.map znD))), some (.fz (.list (D.map .str))), some (.fz (.list (N.map nm))), none, none] h2 ∧ h <+: h2 := by
    refine xfor_rule (Q := fun o => ∃ h2, o = .nx [some (.loc n), some (.fz (.list (Z.map znD))), some (.fz (.list (D.map .str))), some (.fz (.list (N.map nm))), none, none] h2 ∧ h <+: h2) PyData.str
      (fun r ρ h1 => ρ = [some (.loc n), some (.fz (.list (Z.map znD))), some (.fz (.list (D.map .str))), some (.fz (.list (N.map nm))), none, none] ∧ h <+: h1) D ?_ ?_ ?_ ?_
    · simp
    · exact ⟨rfl, List.prefix_refl h⟩
    · rintro ρ h1 ⟨rfl, a1⟩
      exact ⟨h1, rfl, a1⟩
    · rintro d r ρ h1 ⟨rfl, a1⟩
      refine ⟨_, rfl, ?_⟩
      simp only [List.set_cons_succ, List.set_cons_zero]
      obtain ⟨h2, e2, p2⟩ := inner d h1 a1
      have hb : exXs PT q_l_all_told v1_l_all_told [some (.loc n), some (.fz (.list (Z.map znD))), some (.fz (.list (D.map .str))), some (.fz (.list (N.map nm))), some (.fz (.str d)), none] h1
          = .nx [some (.loc n), some (.fz (.list (Z.map znD))), some (.fz (.list (D.map .str))), some (.fz (.list (N.map nm))), some (.fz (.str d)), none] h2 := by
        simp [v1_l_all_told, e2]
      rw [hb]
      exact ⟨rfl, p2⟩
  obtain ⟨h2, e2, p2⟩ := outer
  exact ⟨h2, rX_ret (by simp [b_l_all_told, e2]), p2⟩
def xRow (z : Zn) : Row := ⟨z.top, 5, Str.ofString "mark", .s (Str.ofString "x")⟩
def addX (z : Zn) : Zn := { z with rows := z.rows ++ [xRow z] }
def xC (z : Zn) : Cell := .lst ((z.rows.map rowD).map .fz ++ [.fz (rowD (xRow z))])
theorem oA_2 (k : Nat) (z : Zn) (h : Hc) : ixA (optA k (some z)) (.fz (.int 2)) h = .ok (.loc k) h := by simp [optA, L2.atI, L2.ixN]
theorem just_self {Z : List Zn} (hn : (Z.map zkey).Nodup) {z : Zn} (hz : z ∈ Z) : justP Z z.door z.top = some z := by
  unfold justP
  cases q : Z.find? fun y => decide (y.door = z.door) && decide (y.top = z.top) with
  | none =>
    rw [List.find?_eq_none] at q
    exact absurd (by simp) (q z hz)
  | some y =>
    have h1 := List.find?_some q
    simp only [Bool.and_eq_true, decide_eq_true_eq] at h1
    have := nodup_inj zkey hn (List.mem_of_find?_eq_some q) hz (by unfold zkey; rw [h1.1, h1.2])
    rw [this]
theorem near_self {Z : List Zn} (hn : (Z.map zkey).Nodup) {z : Zn} (hz : z ∈ Z) : nearP (Z.filter fun y => decide (y.door = z.door)) z.top = some z := by
  have hzf : z ∈ Z.filter fun y => decide (y.door = z.door) := List.mem_filter.mpr ⟨hz, by simp⟩
  unfold nearP
  cases q : bestT (Z.filter fun y => decide (y.door = z.door)) z.top with
  | none => exact absurd (by simp) (best_none q z hzf)
  | some t =>
    obtain ⟨b1, _, b3⟩ := best_some q
    have l := b3 z hzf (by simp)
    rw [List.take_of_length_le l] at b1
    subst b1
    simp only [Option.bind_some]
    rw [just_at, just_self hn hz]
theorem eqDs_refl (ls : List (Dat × Dat)) : ∀ ks : List (Dat × Dat), (∀ k ∈ ks, ∃ x, k.1 = .str x ∧ lkD ls x = some k.2 ∧ PyData.eqv k.2 k.2 = true) → eqDs ls ks = true
  | [], _ => rfl
  | (a, d) :: ks, h => by
    obtain ⟨x, h1, h2, h3⟩ := h (a, d) (by simp)
    simp only at h1 h2 h3
    subst h1
    simp only [eqDs, h2, h3, eqDs_refl ls ks fun k hk => h k (by simp [hk]), Bool.and_self]
theorem zos_ok (Q : List Zn) : shOk (.list (Q.map zoD)) = true ∧ PyData.eqv (.list (Q.map zoD)) (.list (Q.map zoD)) = true := by
  have e : Q.map zoD = (Q.map zt).map t3D := by rw [List.map_map]; rfl
  rw [e]
  exact ⟨encT3.lst.sh (by decide) _, by rw [encT3.lst.eqv]; simp⟩
theorem hs_refl (L : List (Str × List Zn)) (hk : (L.map (·.1)).Nodup) : dOk (L.map fun e => (PyData.str e.1, PyData.list (e.2.map zoD))) = true ∧ eqDct (L.map fun e => (PyData.str e.1, PyData.list (e.2.map zoD))) (L.map fun e => (PyData.str e.1, PyData.list (e.2.map zoD))) = true := by
  constructor
  · clear hk
    induction L with
    | nil => rfl
    | cons e L ih => simp only [List.map_cons, dOk, (zos_ok e.2).1, ih, Bool.and_self]
  · simp only [eqDct, beq_self_eq_true, Bool.true_and]
    refine eqDs_refl _ _ fun k hm => ?_
    obtain ⟨e, he, rfl⟩ := List.mem_map.mp hm
    refine ⟨e.1, rfl, ?_, (zos_ok e.2).2⟩
    rw [lk_hs]
    cases q : L.find? fun y => decide (y.1 = e.1) with
    | none =>
      rw [List.find?_eq_none] at q
      exact absurd (by simp) (q e he)
    | some y =>
      have h1 := List.find?_some q
      simp only [decide_eq_true_eq] at h1
      have := nodup_inj (·.1) hk (List.mem_of_find?_eq_some q) he h1
      rw [this]
      rfl
theorem at_rest {Z : List Zn} (hn : (Z.map zkey).Nodup) {z : Zn} (hz : z ∈ Z) (L : List (Str × List Zn)) (hL : ∀ d, atP L d = Z.filter fun y => decide (y.door = d)) (d : Str) :
    atP (L.map fun e => if e.1 = z.door then (e.1, e.2.filter fun y => !decide (y.top = z.top)) else e) d = (Z.filter fun y => !decide (y = z)).filter fun y => decide (y.door = d) := by
  have h1 : atP (L.map fun e => if e.1 = z.door then (e.1, e.2.filter fun y => !decide (y.top = z.top)) else e) d = if d = z.door then (atP L d).filter (fun y => !decide (y.top = z.top)) else atP L d := by
    unfold atP
    rw [List.find?_map]
    have e0 : ((fun e : Str × List Zn => decide (e.1 = d)) ∘ fun e => if e.1 = z.door then (e.1, e.2.filter fun y => !decide (y.top = z.top)) else e) = fun e => decide (e.1 = d) := by
      funext e
      simp only [Function.comp_def]
      split <;> rfl
    rw [e0]
    cases q : L.find? fun e => decide (e.1 = d) with
    | none => simp
    | some e =>
      have hd : e.1 = d := by
        have := List.find?_some q
        exact of_decide_eq_true this
      subst hd
      simp only [Option.map_some, Option.getD_some]
      split <;> rfl
  rw [h1, hL]
  by_cases g : d = z.door
  · rw [if_pos g, List.filter_filter, List.filter_filter]
    refine List.filter_congr fun y hy => ?_
    subst g
    by_cases g1 : y.door = z.door
    · by_cases g2 : y.top = z.top
      · have : y = z := nodup_inj zkey hn hy hz (by unfold zkey; rw [g1, g2])
        simp [this]
      · have : y ≠ z := fun w => g2 (by rw [w])
        simp [g1, g2, this]
    · simp [g1]
  · rw [if_neg g, List.filter_filter]
    refine List.filter_congr fun y hy => ?_
    by_cases g1 : y.door = d
    · have : y ≠ z := fun w => g (by rw [← g1, w])
      simp [g1, this]
    · simp [g1]
theorem cut_len {α : Type} (xs : List α) (j k : Nat) : (cutL xs (some (j : Int)) (some (k : Int))).length ≤ k - j := by
  rw [cut_mid, List.length_take]
  omega
theorem at_zn (Z : List Zn) (c : Int) (h : 1 ≤ Z.length) : ∃ z ∈ Z, ixD (.list (Z.map znD)) (.int (c % (Z.length : Int))) = .ok (znD z) := by
  have h0 : (Z.length : Int) ≠ 0 := by omega
  have h1 := Int.emod_nonneg c h0
  have h2 := Int.emod_lt_of_pos c (b := (Z.length : Int)) (by omega)
  obtain ⟨i, hi⟩ := Int.eq_ofNat_of_zero_le h1
  have hl : i < Z.length := by omega
  refine ⟨Z[i], List.getElem_mem hl, ?_⟩
  rw [hi]
  simp [atI_nat, hl]
theorem law_true (ns : List Int) (hns : ns.length ≤ 63) : ∃ h', f_law [.fz (.list (ns.map .int))] [] = .ok (.fz (.bool true)) h' := by
  have c0 : f_l_cell_at [.list (ns.map .int), .int 0] = .ok (.int (cell ns 0)) := r_cell ns 0
  have c1 : f_l_cell_at [.list (ns.map .int), .int 1] = .ok (.int (cell ns 1)) := r_cell ns 1
  have c2 : f_l_cell_at [.list (ns.map .int), .int 2] = .ok (.int (cell ns 2)) := r_cell ns 2
  have c3 : f_l_cell_at [.list (ns.map .int), .int 3] = .ok (.int (cell ns 3)) := r_cell ns 3
  have c4 : f_l_cell_at [.list (ns.map .int), .int 4] = .ok (.int (cell ns 4)) := r_cell ns 4
  obtain ⟨W, w1, w2, _⟩ := r_words (cell ns 0) (cell ns 1)
  obtain ⟨D, d1, d2, _⟩ := r_doors (cell ns 2) (cell ns 3)
  have s1 : slD (.list (ns.map .int)) (some 5) (some 12) = .ok (.list ((cutL ns (some 5) (some 12)).map .int)) := by simp only [slD, cut_map]
  have s2 : slD (.list (ns.map .int)) (some 12) (some 40) = .ok (.list ((cutL ns (some 12) (some 40)).map .int)) := by simp only [slD, cut_map]
  have l1 : (cutL ns (some 5) (some 12)).length ≤ 7 := cut_len ns 5 12
  have l2 : (cutL ns (some 12) (some 40)).length ≤ 28 := cut_len ns 12 40
  have b1 : binD .add (.list [.int (cell ns 4)]) (.list ((cutL ns (some 5) (some 12)).map .int)) = .ok (.list ((cell ns 4 :: cutL ns (some 5) (some 12)).map .int)) := bin_lst _ _ (by simp; omega)
  generalize cutL ns (some 5) (some 12) = cs at *
  generalize cutL ns (some 12) (some 40) = ms at *
  obtain ⟨Z, h1, z1, z2, z3, z4, z5⟩ := r_zones W D w2 d2 (cell ns 4 :: cs) ms (by simp) (by simp; omega) (by omega) []
  simp only [List.map_cons] at z1 b1
  obtain ⟨H, h2, e2, p2, q2, q2'⟩ := r_houses Z (by omega) h1
  have p6 := r_part (cell ns 3) 0 6 (by omega)
  obtain ⟨M, m1, m2, _⟩ := r_below W w2 (cell ns 3) 1 (part (cell ns 3) 0 6) (part_lo _ _ _ (by omega)) (by have := part_hi (cell ns 3) 0 6 (by omega); omega)
  have hM : M.length ≤ 6 := by have := part_hi (cell ns 3) 0 6 (by omega); omega
  have he0 : ∀ (x4 x5 : Sl), ev PT e0_law [.fz (.list (ns.map .int)), .fz (.list (W.map .str)), .fz (.list (D.map .str)), .fz (.list (Z.map znD)), x4, x5, .un, .un, .un, .un, .un] = .ok (.list (Z.map fun z => nm z.top)) := fun x4 x5 =>
    lc_map znD (fun z => nm z.top) Z (by simp) (by omega) fun z _ => ⟨_, rfl, by simp, by simp [-ixD, zn_1]⟩
  have b2 : binD .add (.list (Z.map fun z => nm z.top)) (.list [nm M]) = .ok (.list ((Z.map (·.top) ++ [M]).map nm)) := by
    rw [bin_lst _ _ (by simp; omega)]
    simp [nm, Function.comp_def]
  have hN : ∀ n ∈ Z.map (·.top) ++ [M], n.length ≤ 1000 := fun n hn => by
    rcases List.mem_append.mp hn with hn | hn
    · obtain ⟨z, hz, rfl⟩ := List.mem_map.mp hn
      have := (z5 z hz).1.top
      omega
    · rw [List.mem_singleton] at hn
      subst hn
      omega
  obtain ⟨z, hz, az⟩ := at_zn Z (cell ns 3) z2
  have el : biD .len [.list (Z.map znD)] = .ok (.int Z.length) := by simp only [biD, List.length_map]
  have em : binD .mod (.int (cell ns 3)) (.int Z.length) = .ok (.int (cell ns 3 % (Z.length : Int))) := bin_mod _ _ (by omega)
  generalize hNs : Z.map (·.top) ++ [M] = N at *
  have hL := at_houses Z
  rw [← q2'] at hL
  obtain ⟨h3, t3, p3⟩ := r_all_told Z (H.map (·.e)) hL D N hN h2 h1.length (hh_rd q2)
  have q3 := hh_pre q2 p3
  have n1 : h1.length < h2.length := (hh_lt q2).1
  have n3 : h2.length ≤ h3.length := p3.length_le
  have k4 : caltR f_p_kept [.loc h1.length, .fz (.str z.door), .fz (nm z.top)] h3 = .ok (optA h3.length (some z)) (optH h3 (some z)) := by
    have e := r_kept (H.map (·.e)) z.door z.top
    rw [hL, just_at, just_self z4 hz] at e
    exact (calT (rdAll_cons (hh_rd q3) (rdAll_fz h3 [.str z.door, nm z.top])) e).trans (trk_opt _ _)
  have p4 := optH_pre h3 (some z)
  have q4 := hh_pre q3 p4
  have g4 : (optH h3 (some z))[h3.length]? = some (.lst ((z.rows.map rowD).map .fz)) := by simp [optH]
  have n4 : (optH h3 (some z)).length = h3.length + 1 := by simp [optH]
  generalize optH h3 (some z) = h4 at *
  have k5 : caltR f_p_nearest [.loc h1.length, .fz (.str z.door), .fz (nm z.top)] h4 = .ok (optA h4.length (some z)) (optH h4 (some z)) := by
    have e := r_nearest (H.map (·.e)) z.door z.top
    rw [hL, near_self z4 hz] at e
    exact (calT (rdAll_cons (hh_rd q4) (rdAll_fz h4 [.str z.door, nm z.top])) e).trans (trk_opt _ _)
  have p5 := optH_pre h4 (some z)
  have q5 := hh_pre q4 p5
  have g5 : (optH h4 (some z))[h4.length]? = some (.lst ((z.rows.map rowD).map .fz)) := by simp [optH]
  have g5' := pre_lst p5 g4
  have n5 : (optH h4 (some z)).length = h4.length + 1 := by simp [optH]
  generalize optH h4 (some z) = h5 at *
  have hrl : ((z.rows.map rowD).map AV.fz).length < 1000000 := by
    have := (z5 z hz).2
    simp
    omega
  -- the list of both
  have w0 : exX PT q_law w0_law [some (.fz (.list (ns.map .int))), some (.fz (.list (W.map .str))), some (.fz (.list (D.map .str))), some (.fz (.list (Z.map znD))), some (.loc h1.length), some (.fz (.int (cell ns 3))), some (.fz (.list (N.map nm))), some (.fz (znD z)), some (.loc h5.length), none, none] (h5 ++ [Cell.lst [optA h3.length (some z), optA h4.length (some z)]])
      = .nx [some (.fz (.list (ns.map .int))), some (.fz (.list (W.map .str))), some (.fz (.list (D.map .str))), some (.fz (.list (Z.map znD))), some (.loc h1.length), some (.fz (.int (cell ns 3))), some (.fz (.list (N.map nm))), some (.fz (znD z)), some (.loc h5.length), none, none]
        (((h5 ++ [Cell.lst [optA h3.length (some z), optA h4.length (some z)]]).set h3.length (xC z)).set h4.length (xC z)) := by
    have body : ∀ (h : Hc) (k : Nat), h[k]? = some (.lst ((z.rows.map rowD).map .fz)) → exXs PT q_law v0_law [some (.fz (.list (ns.map .int))), some (.fz (.list (W.map .str))), some (.fz (.list (D.map .str))), some (.fz (.list (Z.map znD))), some (.loc h1.length), some (.fz (.int (cell ns 3))), some (.fz (.list (N.map nm))), some (.fz (znD z)), some (.loc h5.length), some (optA k (some z)), none] h
        = .nx [some (.fz (.list (ns.map .int))), some (.fz (.list (W.map .str))), some (.fz (.list (D.map .str))), some (.fz (.list (Z.map znD))), some (.loc h1.length), some (.fz (.int (cell ns 3))), some (.fz (.list (N.map nm))), some (.fz (znD z)), some (.loc h5.length), some (optA k (some z)), none] (h.set k (xC z)) := fun h k hk => by
      have eap : m1K .append PT q_law (.p (.tup (.cons (.ix (.var 7) (.int 1)) (.cons (.int 5) (.cons (.str "mark") (.cons (.str "x") .nil)))))) [some (.fz (.list (ns.map .int))), some (.fz (.list (W.map .str))), some (.fz (.list (D.map .str))), some (.fz (.list (Z.map znD))), some (.loc h1.length), some (.fz (.int (cell ns 3))), some (.fz (.list (N.map nm))), some (.fz (znD z)), some (.loc h5.length), some (optA k (some z)), none] (.loc k) h
          = .ok (.fz .none) (h.set k (xC z)) := m1K_app hk hrl (by simp [-ixD, zn_1, rowD, xRow, valD])
      simp [v0_law, oA_2, eap]
    refine xforV_rule (n := h5.length) (Q := fun o => o = .nx [some (.fz (.list (ns.map .int))), some (.fz (.list (W.map .str))), some (.fz (.list (D.map .str))), some (.fz (.list (Z.map znD))), some (.loc h1.length), some (.fz (.int (cell ns 3))), some (.fz (.list (N.map nm))), some (.fz (znD z)), some (.loc h5.length), none, none]
        (((h5 ++ [Cell.lst [optA h3.length (some z), optA h4.length (some z)]]).set h3.length (xC z)).set h4.length (xC z)))
      (fun r ρ h => ρ = [some (.fz (.list (ns.map .int))), some (.fz (.list (W.map .str))), some (.fz (.list (D.map .str))), some (.fz (.list (Z.map znD))), some (.loc h1.length), some (.fz (.int (cell ns 3))), some (.fz (.list (N.map nm))), some (.fz (znD z)), some (.loc h5.length), none, none] ∧
        ((r = [optA h3.length (some z), optA h4.length (some z)] ∧ h = h5 ++ [Cell.lst [optA h3.length (some z), optA h4.length (some z)]]) ∨
         (r = [optA h4.length (some z)] ∧ h = (h5 ++ [Cell.lst [optA h3.length (some z), optA h4.length (some z)]]).set h3.length (xC z)) ∨
         (r = [] ∧ h = ((h5 ++ [Cell.lst [optA h3.length (some z), optA h4.length (some z)]]).set h3.length (xC z)).set h4.length (xC z))))
      [optA h3.length (some z), optA h4.length (some z)] ?_ (by simp) ?_ ?_ ?_ ?_
    · simp
    · exact ⟨rfl, .inl ⟨rfl, rfl⟩⟩
    · rintro r ρ h ⟨rfl, hh⟩
      have x3 : h3.length ≠ h5.length := by omega
      have x4 : h4.length ≠ h5.length := by omega
      rcases hh with ⟨_, rfl⟩ | ⟨_, rfl⟩ | ⟨_, rfl⟩
      · simp
      · rw [List.getElem?_set_ne x3]; simp
      · rw [List.getElem?_set_ne x4, List.getElem?_set_ne x3]; simp
    · rintro ρ h ⟨rfl, hh⟩
      rcases hh with ⟨w, _⟩ | ⟨w, _⟩ | ⟨_, rfl⟩
      · cases w
      · cases w
      · rfl
    · rintro x r ρ h ⟨rfl, hh⟩
      rcases hh with ⟨w, rfl⟩ | ⟨w, rfl⟩ | ⟨w, _⟩
      · cases w
        refine ⟨_, rfl, ?_⟩
        simp only [List.set_cons_succ, List.set_cons_zero]
        rw [body _ _ (pre_lst (List.prefix_append _ _) g5')]
        exact ⟨rfl, .inr (.inl (by simp))⟩
      · cases w
        refine ⟨_, rfl, ?_⟩
        simp only [List.set_cons_succ, List.set_cons_zero]
        rw [body _ _ (by rw [List.getElem?_set_ne (by omega)]; exact pre_lst (List.prefix_append _ _) g5)]
        exact ⟨rfl, .inr (.inr (by simp))⟩
      · cases w
  have p7 : h3 <+: ((h5 ++ [Cell.lst [optA h3.length (some z), optA h4.length (some z)]]).set h3.length (xC z)).set h4.length (xC z) :=
    pre_set (pre_set (pre_app (p4.trans p5) _) (Nat.le_refl _) _) (by omega) _
  have g7 : (((h5 ++ [Cell.lst [optA h3.length (some z), optA h4.length (some z)]]).set h3.length (xC z)).set h4.length (xC z))[h3.length]? = some (.lst (((addX z).rows.map rowD).map .fz)) := by
    rw [List.getElem?_set_ne (by omega), List.getElem?_set_self (by simp; omega)]
    simp [addX, xC]
  have f7 : (((h5 ++ [Cell.lst [optA h3.length (some z), optA h4.length (some z)]]).set h3.length (xC z)).set h4.length (xC z))[h5.length]? = some (.lst [optA h3.length (some z), optA h4.length (some z)]) := by
    rw [List.getElem?_set_ne (by omega), List.getElem?_set_ne (by omega)]
    simp
  generalize ((h5 ++ [Cell.lst [optA h3.length (some z), optA h4.length (some z)]]).set h3.length (xC z)).set h4.length (xC z) = h7 at *
  obtain ⟨H8, h8, e8, p8, q8, q8'⟩ := r_houses Z (by omega) h7
  have qh8 := hh_pre q3 (p7.trans p8)
  have hkn := houses_keys Z
  obtain ⟨o1, o2⟩ := hs_refl (housesP Z) hkn
  have ec : cmpK .ne (.loc h1.length) (.loc h7.length) h8 = .ok (.fz (.bool false)) h8 := by
    have r1 := hh_rd qh8
    have r2 := hh_rd q8
    rw [q2'] at r1
    rw [q8'] at r2
    rw [cmpK_dne r1 r2 o1 o1, o2]
    rfl
  obtain ⟨h9, t9, p9⟩ := r_all_told Z (H.map (·.e)) hL [z.door] [z.top] (fun n hn => by rw [List.mem_singleton] at hn; subst hn; have := (z5 z hz).1.top; omega) h8 h1.length (hh_rd qh8)
  simp only [List.map_cons, List.map_nil] at t9
  have qh9 := hh_pre qh8 p9
  -- the owner takes the zone out
  have lk := lk_hk H z.door
  have hxf : ∃ x ∈ H, x.e.1 = z.door ∧ lkA (H.map hkA) z.door = some (.loc x.k) ∧ x.e.2.length ≤ 8 := by
    rw [lk]
    have ha := hL z.door
    unfold atP at ha
    rw [List.find?_map] at ha
    cases q : H.find? fun x => decide (x.e.1 = z.door) with
    | none =>
      have : List.find? ((fun e : Str × List Zn => decide (e.1 = z.door)) ∘ fun x : HK => x.e) H = none := q
      rw [this] at ha
      have hzf : z ∈ Z.filter fun y => decide (y.door = z.door) := List.mem_filter.mpr ⟨hz, by simp⟩
      rw [← ha] at hzf
      simp at hzf
    | some x =>
      have : List.find? ((fun e : Str × List Zn => decide (e.1 = z.door)) ∘ fun x : HK => x.e) H = some x := q
      rw [this] at ha
      simp only [Option.map_some, Option.getD_some] at ha
      refine ⟨x, List.mem_of_find?_eq_some q, by have := List.find?_some q; simpa using this, rfl, ?_⟩
      rw [ha]
      exact Nat.le_trans (List.length_filter_le _ _) z3
  obtain ⟨x, hx, hxd, lk, hxl⟩ := hxf
  have edix : dixA (.loc h1.length) (.fz (.str z.door)) h9 = .ok (.loc x.k) h9 := by simp only [dixA, qh9.dct, lk]
  have he1 : xv PT q_law e1_law [some (.fz (.list (ns.map .int))), some (.fz (.list (W.map .str))), some (.fz (.list (D.map .str))), some (.fz (.list (Z.map znD))), some (.loc h1.length), some (.fz (.int (cell ns 3))), some (.fz (.list (N.map nm))), some (.fz (znD z)), some (.loc h5.length), none, none] h9
      = .ok (.loc h9.length) (h9 ++ [Cell.lst ((x.e.2.filter fun y => !decide (y.top = z.top)).map fun y => AV.fz (zoD y))]) := by
    refine xlc_x (k := x.k) (fun y : Zn => .fz (zoD y)) x.e.2 _ (fun y => .fz (zoD y)) (by simp [-ixD, zn_0, edix]) ?_ (by omega) fun y hy acc => ⟨_, rfl, ?_, fun _ => by simp⟩
    · have := qh9.lst x hx
      rw [List.map_map] at this
      exact this
    · simp [-ixD, zo_0, zn_1]
  have p10 : h9 <+: h9 ++ [Cell.lst ((x.e.2.filter fun y => !decide (y.top = z.top)).map fun y => AV.fz (zoD y))] := List.prefix_append _ _
  have qh10 := hh_pre qh9 p10
  have hHl : (H.map hkA).length < 1000000 := by
    have : H.length = (housesP Z).length := by rw [← q2', List.length_map]
    have e : ∀ (Z : List Zn) (L : List (Str × List Zn)), (Z.foldl padd L).length ≤ L.length + Z.length := by
      intro Z
      induction Z with
      | nil => intro L; simp
      | cons y Z ih =>
        intro L
        have := ih (padd L y)
        have h2 : (padd L y).length ≤ L.length + 1 := by
          unfold padd hens
          split <;> simp
        rw [List.foldl_cons]
        simp
        omega
    have := e Z []
    unfold housesP at *
    simp at this ⊢
    omega
  have eset : setdA (.loc h1.length) (.fz (.str z.door)) (.loc h9.length) (h9 ++ [Cell.lst ((x.e.2.filter fun y => !decide (y.top = z.top)).map fun y => AV.fz (zoD y))]) = some ((h9 ++ [Cell.lst ((x.e.2.filter fun y => !decide (y.top = z.top)).map fun y => AV.fz (zoD y))]).set h1.length (Cell.dct ((H.map hkA).map fun kv => if kv.1 = z.door then (kv.1, AV.loc h9.length) else kv))) := by
    simp only [setdA, qh10.dct, hHl, if_true, putA, lk]
  have n9 : h1.length < h9.length := (hh_lt qh9).1
  have n10 : h5.length < h9.length := by
    have := (List.getElem?_eq_some_iff.mp (pre_lst (p8.trans p9) f7)).1
    exact this
  generalize hh10 : h9 ++ [Cell.lst ((x.e.2.filter fun y => !decide (y.top = z.top)).map fun y => AV.fz (zoD y))] = h10 at *
  have l10 : h9.length < h10.length := by rw [← hh10]; simp
  have g10 : h10[h9.length]? = some (.lst (((x.e.2.filter fun y => !decide (y.top = z.top)).map zoD).map .fz)) := by
    rw [← hh10, List.map_map]
    simp [Function.comp_def]
  have hrd11 : rd (h10.set h1.length (Cell.dct ((H.map hkA).map fun kv => if kv.1 = z.door then (kv.1, AV.loc h9.length) else kv))) (.loc h1.length) = some (hsP ((H.map (·.e)).map fun e => if e.1 = z.door then (e.1, e.2.filter fun y => !decide (y.top = z.top)) else e)) := by
    have e1 : (H.map hkA).map (fun kv => if kv.1 = z.door then (kv.1, AV.loc h9.length) else kv) = H.map fun y => (y.e.1, if y.e.1 = z.door then AV.loc h9.length else .loc y.k) := by
      rw [List.map_map]
      refine List.map_congr_left fun y _ => ?_
      by_cases g : y.e.1 = z.door <;> simp [hkA, g]
    have e2 : ((H.map (·.e)).map fun e => if e.1 = z.door then (e.1, e.2.filter fun y => !decide (y.top = z.top)) else e).map (fun e => (PyData.str e.1, PyData.list (e.2.map zoD))) = H.map fun y => (PyData.str y.e.1, if y.e.1 = z.door then PyData.list ((y.e.2.filter fun u => !decide (u.top = z.top)).map zoD) else .list (y.e.2.map zoD)) := by
      rw [List.map_map, List.map_map]
      refine List.map_congr_left fun y _ => ?_
      simp only [Function.comp_def]
      split <;> rfl
    unfold hsP
    rw [e2]
    have hn := q2.nd
    rw [List.nodup_cons] at hn
    have kn : (H.map fun y => y.e.1).Nodup := by
      have := hkn
      rw [← q2', List.map_map] at this
      exact this
    refine rdA_dct (f := 8) (fun y : HK => y.e.1) (fun y => if y.e.1 = z.door then AV.loc h9.length else .loc y.k) (fun y => if y.e.1 = z.door then PyData.list ((y.e.2.filter fun u => !decide (u.top = z.top)).map zoD) else .list (y.e.2.map zoD)) ?_ fun y hy => ?_
    · rw [List.getElem?_set_self (by omega), e1]
    · by_cases g : y.e.1 = z.door
      · have : y = x := nodup_inj (fun y : HK => y.e.1) kn hy hx (g.trans hxd.symm)
        subst this
        simp only [g, if_true]
        exact rdA_flat (by rw [List.getElem?_set_ne (by omega)]; exact g10) 6
      · simp only [g, if_false]
        have hz : h1.length ≠ y.k := fun w => hn.1 (by rw [w]; exact List.mem_map_of_mem hy)
        exact rdA_flat (by rw [List.getElem?_set_ne hz]; exact qh10.lst y hy) 6
  have f11 : (h10.set h1.length (Cell.dct ((H.map hkA).map fun kv => if kv.1 = z.door then (kv.1, AV.loc h9.length) else kv)))[h5.length]? = some (.lst [optA h3.length (some z), optA h4.length (some z)]) := by
    rw [List.getElem?_set_ne (by omega)]
    exact pre_lst ((p8.trans p9).trans p10) f7
  have g11 : (h10.set h1.length (Cell.dct ((H.map hkA).map fun kv => if kv.1 = z.door then (kv.1, AV.loc h9.length) else kv)))[h3.length]? = some (.lst (((addX z).rows.map rowD).map .fz)) := by
    rw [List.getElem?_set_ne (by omega)]
    exact pre_lst ((p8.trans p9).trans p10) g7
  generalize h10.set h1.length (Cell.dct ((H.map hkA).map fun kv => if kv.1 = z.door then (kv.1, AV.loc h9.length) else kv)) = h11 at *
  have he2 : ∀ (x4 x8 : Sl), ev PT e2_law [.fz (.list (ns.map .int)), .fz (.list (W.map .str)), .fz (.list (D.map .str)), .fz (.list (Z.map znD)), x4, .fz (.int (cell ns 3)), .fz (.list (N.map nm)), .fz (znD z), x8, .un, .un] = .ok (.list ((Z.filter fun y => !decide (y = z)).map znD)) := fun x4 x8 =>
    lc_filter znD znD _ Z (by simp) (by omega) fun y _ => ⟨_, rfl, by simp [encZn.ne (by decide) y z], fun _ => by simp⟩
  obtain ⟨h12, t12, p12⟩ := r_all_told (Z.filter fun y => !decide (y = z)) _ (at_rest z4 hz _ hL) D N hN h11 h1.length hrd11
  have f12 := pre_lst p12 f11
  have g12 := pre_lst p12 g11
  have i8 : ixA (.loc h5.length) (.fz (.int 0)) h12 = .ok (optA h3.length (some z)) h12 := by
    rw [ixA_loc f12]
    rfl
  have rdA12 : rd h12 (optA h3.length (some z)) = some (zoD (addX z)) := by
    refine rdA_tp ?_
    have q := rdA_flat g12 6
    have e3 : rdA h12 8 (.fz (nm z.top)) = some (nm z.top) := rdA_fz _ 7 _
    have e4 : rdA h12 8 (.fz (.int z.life)) = some (.int z.life) := rdA_fz _ 7 _
    simp only [rdL, e3, e4, q]
    rfl
  have z12 : caldR f_l_is_zone [optA h3.length (some z), .fz (znD (addX z))] h12 = .ok (.fz (.bool true)) h12 := calD (rdAll_cons rdA12 (rdAll_fz h12 [znD (addX z)])) (r_is_zone (addX z)) rfl
  have b3 : binD .add (.list (z.rows.map rowD)) (.list [.tuple [nm z.top, .int 5, .str (Str.ofString "mark"), .str (Str.ofString "x")]]) = .ok (.list ((addX z).rows.map rowD)) := by
    rw [bin_lst _ _ (by simp at hrl ⊢; omega)]
    simp [addX, xRow, rowD, valD]
  have ez : PyData.tuple [.str z.door, nm z.top, .int z.life, .list ((addX z).rows.map rowD)] = znD (addX z) := rfl
  exact ⟨h12, rX_ret (by
    simp [-ixD, -slD, -biD, b_law, c0, c1, c2, c3, c4, w1, d1, s1, s2, b1, z1, e2, p6, m1, he0, b2, t3, el, em, az, zn_0, zn_1, zn_2, zn_3, k4, k5, lstK, w0, e8, ec, t9, he1, eset, he2, t12, i8, b3, ez, z12])⟩
end NK31
end

section
set_option maxHeartbeats 0
namespace NK31
open PySem PySem.Spec PyProof.Rows L2 NW
def top (i : Nat) : Stmt := PySem.Challenge.pw_namewell_k31_the_zones_of_a_house.main.body.getD i (.Pass ⟨0, 0, 0, 0⟩)
abbrev FnP (K : PySem.W.Frag) (x : Str) (st : Stmt) (f : Addr) (fd : FuncData) : Prop := FunD K x x (defArgs st) (defBody st) (defScope st) [] [] f fd
theorem ok_p_at_or_beneath : okSs (T.at_ false) 0 N_p_at_or_beneath (defScope (top 1)) 0 b_p_at_or_beneath (defBody (top 1)) = true := by decide +kernel
theorem sc_p_at_or_beneath : FnScope N_p_at_or_beneath ["name", "top"] (defScope (top 1)) := ⟨rfl, rfl, rfl, by decide +kernel, rfl, by decide +kernel, by decide +kernel⟩
def d_p_at_or_beneath : He.DefD := ⟨("at_or_beneath", none), "at_or_beneath", "at_or_beneath", defArgs (top 1), defBody (top 1), defScope (top 1), [], []⟩
theorem ok_p_zones_at : okSs (T.at_ false) 1 N_p_zones_at (defScope (top 3)) 0 b_p_zones_at (defBody (top 3)) = true := by decide +kernel
theorem sc_p_zones_at : FnScope N_p_zones_at ["houses", "door"] (defScope (top 3)) := ⟨rfl, rfl, rfl, by decide +kernel, rfl, by decide +kernel, by decide +kernel⟩
def d_p_zones_at : He.DefD := ⟨("zones_at", none), "zones_at", "zones_at", defArgs (top 3), defBody (top 3), defScope (top 3), [], []⟩
theorem ok_p_kept : okSs (T.at_ false) 2 N_p_kept (defScope (top 4)) 3 b_p_kept (defBody (top 4)) = true := by decide +kernel
theorem sc_p_kept : FnScope N_p_kept ["houses", "door", "top"] (defScope (top 4)) := ⟨rfl, rfl, rfl, by decide +kernel, rfl, by decide +kernel, by decide +kernel⟩
def d_p_kept : He.DefD := ⟨("kept", none), "kept", "kept", defArgs (top 4), defBody (top 4), defScope (top 4), [], []⟩
theorem ok_p_nearest : okSs (T.at_ false) 3 N_p_nearest (defScope (top 5)) 3 b_p_nearest (defBody (top 5)) = true := by decide +kernel
theorem sc_p_nearest : FnScope N_p_nearest ["houses", "door", "name"] (defScope (top 5)) := ⟨rfl, rfl, rfl, by decide +kernel, rfl, by decide +kernel, by decide +kernel⟩
def d_p_nearest : He.DefD := ⟨("nearest", none), "nearest", "nearest", defArgs (top 5), defBody (top 5), defScope (top 5), [], []⟩
theorem ok_l_cell_at : okSs (T.at_ false) 4 N_l_cell_at (defScope (top 7)) 0 b_l_cell_at (defBody (top 7)) = true := by decide +kernel
theorem sc_l_cell_at : FnScope N_l_cell_at ["_law_script", "_law_k"] (defScope (top 7)) := ⟨rfl, rfl, rfl, by decide +kernel, rfl, by decide +kernel, by decide +kernel⟩
def d_l_cell_at : He.DefD := ⟨("_law_cell_at", none), "_law_cell_at", "_law_cell_at", defArgs (top 7), defBody (top 7), defScope (top 7), [], []⟩
theorem ok_l_part : okSs (T.at_ false) 5 N_l_part (defScope (top 8)) 0 b_l_part (defBody (top 8)) = true := by decide +kernel
theorem sc_l_part : FnScope N_l_part ["_law_cell", "_law_k", "_law_many"] (defScope (top 8)) := ⟨rfl, rfl, rfl, by decide +kernel, rfl, by decide +kernel, by decide +kernel⟩
def d_l_part : He.DefD := ⟨("_law_part", none), "_law_part", "_law_part", defArgs (top 8), defBody (top 8), defScope (top 8), [], []⟩
theorem ok_l_alike : okSs (T.at_ false) 6 N_l_alike (defScope (top 9)) 0 b_l_alike (defBody (top 9)) = true := by decide +kernel
theorem sc_l_alike : FnScope N_l_alike ["_law_one", "_law_other", "_law_signs"] (defScope (top 9)) := ⟨rfl, rfl, rfl, by decide +kernel, rfl, by decide +kernel, by decide +kernel⟩
def d_l_alike : He.DefD := ⟨("_law_alike", none), "_law_alike", "_law_alike", defArgs (top 9), defBody (top 9), defScope (top 9), [], []⟩
theorem ok_l_words : okSs (T.at_ false) 7 N_l_words (defScope (top 10)) 0 b_l_words (defBody (top 10)) = true := by decide +kernel
theorem sc_l_words : FnScope N_l_words ["_law_one", "_law_other"] (defScope (top 10)) := ⟨rfl, rfl, rfl, by decide +kernel, rfl, by decide +kernel, by decide +kernel⟩
def d_l_words : He.DefD := ⟨("_law_words", none), "_law_words", "_law_words", defArgs (top 10), defBody (top 10), defScope (top 10), [], []⟩
theorem ok_l_doors : okSs (T.at_ false) 8 N_l_doors (defScope (top 11)) 0 b_l_doors (defBody (top 11)) = true := by decide +kernel
theorem sc_l_doors : FnScope N_l_doors ["_law_one", "_law_other"] (defScope (top 11)) := ⟨rfl, rfl, rfl, by decide +kernel, rfl, by decide +kernel, by decide +kernel⟩
def d_l_doors : He.DefD := ⟨("_law_doors", none), "_law_doors", "_law_doors", defArgs (top 11), defBody (top 11), defScope (top 11), [], []⟩
theorem ok_l_below : okSs (T.at_ false) 9 N_l_below (defScope (top 12)) 0 b_l_below (defBody (top 12)) = true := by decide +kernel
theorem sc_l_below : FnScope N_l_below ["_law_words_here", "_law_cell", "_law_k", "_law_many"] (defScope (top 12)) := ⟨rfl, rfl, rfl, by decide +kernel, rfl, by decide +kernel, by decide +kernel⟩
def d_l_below : He.DefD := ⟨("_law_below", none), "_law_below", "_law_below", defArgs (top 12), defBody (top 12), defScope (top 12), [], []⟩
theorem ok_l_row : okSs (T.at_ false) 10 N_l_row (defScope (top 13)) 0 b_l_row (defBody (top 13)) = true := by decide +kernel
theorem sc_l_row : FnScope N_l_row ["_law_words_here", "_law_top", "_law_cell"] (defScope (top 13)) := ⟨rfl, rfl, rfl, by decide +kernel, rfl, by decide +kernel, by decide +kernel⟩
def d_l_row : He.DefD := ⟨("_law_row", none), "_law_row", "_law_row", defArgs (top 13), defBody (top 13), defScope (top 13), [], []⟩
theorem ok_l_fits : okSs (T.at_ false) 11 N_l_fits (defScope (top 14)) 0 b_l_fits (defBody (top 14)) = true := by decide +kernel
theorem sc_l_fits : FnScope N_l_fits ["_law_rows", "_law_row_here", "_law_top"] (defScope (top 14)) := ⟨rfl, rfl, rfl, by decide +kernel, rfl, by decide +kernel, by decide +kernel⟩
def d_l_fits : He.DefD := ⟨("_law_fits", none), "_law_fits", "_law_fits", defArgs (top 14), defBody (top 14), defScope (top 14), [], []⟩
theorem ok_l_is_zone : okSs (T.at_ false) 12 N_l_is_zone (defScope (top 17)) 0 b_l_is_zone (defBody (top 17)) = true := by decide +kernel
theorem sc_l_is_zone : FnScope N_l_is_zone ["_law_found", "_law_due"] (defScope (top 17)) := ⟨rfl, rfl, rfl, by decide +kernel, rfl, by decide +kernel, by decide +kernel⟩
def d_l_is_zone : He.DefD := ⟨("_law_is_zone", none), "_law_is_zone", "_law_is_zone", defArgs (top 17), defBody (top 17), defScope (top 17), [], []⟩
theorem ok_l_just : okSs (T.at_ false) 13 N_l_just (defScope (top 18)) 0 b_l_just (defBody (top 18)) = true := by decide +kernel
theorem sc_l_just : FnScope N_l_just ["_law_zones_here", "_law_door", "_law_top"] (defScope (top 18)) := ⟨rfl, rfl, rfl, by decide +kernel, rfl, by decide +kernel, by decide +kernel⟩
def d_l_just : He.DefD := ⟨("_law_just", none), "_law_just", "_law_just", defArgs (top 18), defBody (top 18), defScope (top 18), [], []⟩
theorem ok_l_best : okSs (T.at_ false) 14 N_l_best (defScope (top 19)) 0 b_l_best (defBody (top 19)) = true := by decide +kernel
theorem sc_l_best : FnScope N_l_best ["_law_zones_here", "_law_door", "_law_name"] (defScope (top 19)) := ⟨rfl, rfl, rfl, by decide +kernel, rfl, by decide +kernel, by decide +kernel⟩
def d_l_best : He.DefD := ⟨("_law_best", none), "_law_best", "_law_best", defArgs (top 19), defBody (top 19), defScope (top 19), [], []⟩
theorem ok_l_zones : okZs (T.at_ false) S 15 0 N_l_zones (defScope (top 15)) b_l_zones (defBody (top 15)) = true := by decide +kernel
theorem sc_l_zones : FnScope N_l_zones ["_law_words_here", "_law_doors_here", "_law_cells", "_law_more"] (defScope (top 15)) := ⟨rfl, rfl, rfl, by decide +kernel, rfl, by decide +kernel, by decide +kernel⟩
def d_l_zones : He.DefD := ⟨("_law_zones", none), "_law_zones", "_law_zones", defArgs (top 15), defBody (top 15), defScope (top 15), [], []⟩
theorem ok_l_houses : okZs (T.at_ false) S 16 1 N_l_houses (defScope (top 16)) b_l_houses (defBody (top 16)) = true := by decide +kernel
theorem sc_l_houses : FnScope N_l_houses ["_law_zones_here"] (defScope (top 16)) := ⟨rfl, rfl, rfl, by decide +kernel, rfl, by decide +kernel, by decide +kernel⟩
def d_l_houses : He.DefD := ⟨("_law_houses", none), "_law_houses", "_law_houses", defArgs (top 16), defBody (top 16), defScope (top 16), [], []⟩
theorem ok_l_all_told : okZs (T.at_ false) S 17 2 N_l_all_told (defScope (top 20)) b_l_all_told (defBody (top 20)) = true := by decide +kernel
theorem sc_l_all_told : FnScope N_l_all_told ["_law_houses_here", "_law_zones_here", "_law_doors_here", "_law_names"] (defScope (top 20)) := ⟨rfl, rfl, rfl, by decide +kernel, rfl, by decide +kernel, by decide +kernel⟩
def d_l_all_told : He.DefD := ⟨("_law_all_told", none), "_law_all_told", "_law_all_told", defArgs (top 20), defBody (top 20), defScope (top 20), [], []⟩
theorem ok_law : okZs (T.at_ false) S 18 3 N_law (defScope (top 21)) b_law (defBody (top 21)) = true := by decide +kernel
theorem sc_law : FnScope N_law ["_law_script"] (defScope (top 21)) := ⟨rfl, rfl, rfl, by decide +kernel, rfl, by decide +kernel, by decide +kernel⟩
def d_law : He.DefD := ⟨("law", none), "law", "law", defArgs (top 21), defBody (top 21), defScope (top 21), [], []⟩
def fn : List He.DefD := [d_p_at_or_beneath, d_p_zones_at, d_p_kept, d_p_nearest, d_l_cell_at, d_l_part, d_l_alike, d_l_words, d_l_doors, d_l_below, d_l_row, d_l_fits, d_l_is_zone, d_l_just, d_l_best, d_l_zones, d_l_houses, d_l_all_told, d_law]
def fa : List He.Fa := [.glo "at_or_beneath", .glo "zones_at", .glo "kept", .glo "nearest", .glo "_law_cell_at", .glo "_law_part", .glo "_law_alike", .glo "_law_words", .glo "_law_doors", .glo "_law_below", .glo "_law_row", .glo "_law_fits", .glo "_law_is_zone", .glo "_law_just", .glo "_law_best", .glo "_law_zones", .glo "_law_houses", .glo "_law_all_told", .glo "law", .free "len", .free "min", .free "max", .free "int", .free "str", .free "ord", .free "tuple", .free "list", .free "isinstance", .free "bool", .free "range", .free "any", .free "all", .free "sorted"]
def ex : List (PySem.W.Frag → Bool) := []
def loose0 : List Str := ["at_or_beneath", "zones_at", "kept", "nearest", "_law_cell_at", "_law_part", "_law_alike", "_law_words", "_law_doors", "_law_below", "_law_row", "_law_fits", "_law_zones", "_law_houses", "_law_is_zone", "_law_just", "_law_best", "_law_all_told"]
def loose : List Str := loose0
abbrev R : PySem.W.OpenRow := PySem.W.OpenLaw.row PySem.Challenge.rw_namewell_k31_the_zones_of_a_house
abbrev hk : PySem.W.Hook := hookX 4 fa fn ex
def ob (s : PySem.W.SharedT) : AlX := obsXG 4 fa fn ex (HandSHeadRun.getT s)
theorem ob_eq (s : PySem.W.SharedT) : ob s = hk.obs s.abs := obsXG_eq (HandSHeadRun.getT_eq s)
theorem run (w : World) : HandSHeadRun.RunEq R (PySem.W.view R.prog [21]) hk ob 2600 loose w := by
  intro os
  kernel_rfl
theorem facts {P : Program} {w : World} {K : PySem.W.Frag} {h : Heap} {mg : Str → Option Value} {f : Addr} (X : K.In h) (G : h.Ns mainGlobals mg) (hfa : mg ("law" : Str) = some (.ref f)) (c : He.SaysD fa fn K) (cx : exAll ex K = true) :
    ∃ fd : FuncData, (∀ (s : Shared) (v : Value), BindsTo s fd ⟨[v], []⟩ [("_law_script", v)]) ∧ ∀ base : Heap, K.In base → base.Ns mainGlobals mg → FnOk P w K mg base CX0 19 f fd ["_law_script"] (fun vs H Q _ => spO K mg g_law f_law vs H Q (fun _ _ _ => False)) := by
  obtain ⟨fd0, F0⟩ := c.def_ 0 (d := d_p_at_or_beneath) rfl
  obtain ⟨fd1, F1⟩ := c.def_ 1 (d := d_p_zones_at) rfl
  obtain ⟨fd2, F2⟩ := c.def_ 2 (d := d_p_kept) rfl
  obtain ⟨fd3, F3⟩ := c.def_ 3 (d := d_p_nearest) rfl
  obtain ⟨fd4, F4⟩ := c.def_ 4 (d := d_l_cell_at) rfl
  obtain ⟨fd5, F5⟩ := c.def_ 5 (d := d_l_part) rfl
  obtain ⟨fd6, F6⟩ := c.def_ 6 (d := d_l_alike) rfl
  obtain ⟨fd7, F7⟩ := c.def_ 7 (d := d_l_words) rfl
  obtain ⟨fd8, F8⟩ := c.def_ 8 (d := d_l_doors) rfl
  obtain ⟨fd9, F9⟩ := c.def_ 9 (d := d_l_below) rfl
  obtain ⟨fd10, F10⟩ := c.def_ 10 (d := d_l_row) rfl
  obtain ⟨fd11, F11⟩ := c.def_ 11 (d := d_l_fits) rfl
  obtain ⟨fd12, F12⟩ := c.def_ 12 (d := d_l_is_zone) rfl
  obtain ⟨fd13, F13⟩ := c.def_ 13 (d := d_l_just) rfl
  obtain ⟨fd14, F14⟩ := c.def_ 14 (d := d_l_best) rfl
  obtain ⟨fd15, F15⟩ := c.def_ 15 (d := d_l_zones) rfl
  obtain ⟨fd16, F16⟩ := c.def_ 16 (d := d_l_houses) rfl
  obtain ⟨fd17, F17⟩ := c.def_ 17 (d := d_l_all_told) rfl
  obtain ⟨fd18, F18⟩ := c.def_ 18 (d := d_law) rfl
  have e := hfa.symm.trans (He.glo_ok X G (c.fact 18 (f := .glo "law") rfl))
  cases e
  have b := FunD.bindsA (ps := ["_law_script"]) F18 fun _ _ _ _ _ _ us hl => match us, hl with | [_], _ => rfl
  refine ⟨fd18, fun s v => b s [v] rfl, fun base _ _ => ?_⟩
  have w0 : Gw P w K mg base T P0 0 := ⟨fun k sg h => absurd h (Nat.not_lt_zero k), fun k x h => ?_, fun b hb => ?_, fun cc hc => ?_, fun cc cy r hr => ?_, fun cc cy r hr => ?_, fun cc hc => ?_⟩
  rotate_left
  · cases h
  · simp only [bltN, List.mem_cons, List.not_mem_nil, or_false] at hb
    rcases hb with rfl | rfl | rfl | rfl | rfl | rfl | rfl | rfl | rfl | rfl | rfl | rfl | rfl | rfl
    · exact He.free_ok X G (c.fact 19 (f := .free "len") rfl)
    · exact He.free_ok X G (c.fact 20 (f := .free "min") rfl)
    · exact He.free_ok X G (c.fact 21 (f := .free "max") rfl)
    · exact He.free_ok X G (c.fact 22 (f := .free "int") rfl)
    · exact He.free_ok X G (c.fact 23 (f := .free "str") rfl)
    · exact He.free_ok X G (c.fact 24 (f := .free "ord") rfl)
    · exact He.free_ok X G (c.fact 25 (f := .free "tuple") rfl)
    · exact He.free_ok X G (c.fact 26 (f := .free "list") rfl)
    · exact He.free_ok X G (c.fact 27 (f := .free "isinstance") rfl)
    · exact He.free_ok X G (c.fact 28 (f := .free "bool") rfl)
    · exact He.free_ok X G (c.fact 29 (f := .free "range") rfl)
    · exact He.free_ok X G (c.fact 30 (f := .free "any") rfl)
    · exact He.free_ok X G (c.fact 31 (f := .free "all") rfl)
    · exact He.free_ok X G (c.fact 32 (f := .free "sorted") rfl)
  · cases hc
  · cases hr
  · cases hr
  · cases hc
  have w1 : Gw P w K mg base T P1 1 := w0.next (N := N_p_at_or_beneath) (ps := ["name", "top"]) (F := f_p_at_or_beneath) (ir := b_p_at_or_beneath) (sg := g_p_at_or_beneath) rfl F0 (He.glo_ok X G (c.fact 0 (f := .glo "at_or_beneath") rfl)) sc_p_at_or_beneath rfl (by decide) ok_p_at_or_beneath (fun ds _ _ => rfl) fun _ _ _ _ _ _ us hl => match us, hl with | [_, _], _ => rfl
  have w2 : Gw P w K mg base T P2 2 := w1.next (N := N_p_zones_at) (ps := ["houses", "door"]) (F := f_p_zones_at) (ir := b_p_zones_at) (sg := g_p_zones_at) rfl F1 (He.glo_ok X G (c.fact 1 (f := .glo "zones_at") rfl)) sc_p_zones_at rfl (by decide) ok_p_zones_at (fun ds _ _ => rfl) fun _ _ _ _ _ _ us hl => match us, hl with | [_, _], _ => rfl
  have w3 : Gw P w K mg base T P3 3 := w2.next (N := N_p_kept) (ps := ["houses", "door", "top"]) (F := f_p_kept) (ir := b_p_kept) (sg := g_p_kept) rfl F2 (He.glo_ok X G (c.fact 2 (f := .glo "kept") rfl)) sc_p_kept rfl (by decide) ok_p_kept (fun ds _ _ => rfl) fun _ _ _ _ _ _ us hl => match us, hl with | [_, _, _], _ => rfl
  have w4 : Gw P w K mg base T P4 4 := w3.next (N := N_p_nearest) (ps := ["houses", "door", "name"]) (F := f_p_nearest) (ir := b_p_nearest) (sg := g_p_nearest) rfl F3 (He.glo_ok X G (c.fact 3 (f := .glo "nearest") rfl)) sc_p_nearest rfl (by decide) ok_p_nearest (fun ds _ _ => rfl) fun _ _ _ _ _ _ us hl => match us, hl with | [_, _, _], _ => rfl
  have w5 : Gw P w K mg base T P5 5 := w4.next (N := N_l_cell_at) (ps := ["_law_script", "_law_k"]) (F := f_l_cell_at) (ir := b_l_cell_at) (sg := g_l_cell_at) rfl F4 (He.glo_ok X G (c.fact 4 (f := .glo "_law_cell_at") rfl)) sc_l_cell_at rfl (by decide) ok_l_cell_at (fun ds _ _ => rfl) fun _ _ _ _ _ _ us hl => match us, hl with | [_, _], _ => rfl
  have w6 : Gw P w K mg base T P6 6 := w5.next (N := N_l_part) (ps := ["_law_cell", "_law_k", "_law_many"]) (F := f_l_part) (ir := b_l_part) (sg := g_l_part) rfl F5 (He.glo_ok X G (c.fact 5 (f := .glo "_law_part") rfl)) sc_l_part rfl (by decide) ok_l_part (fun ds _ _ => rfl) fun _ _ _ _ _ _ us hl => match us, hl with | [_, _, _], _ => rfl
  have w7 : Gw P w K mg base T P7 7 := w6.next (N := N_l_alike) (ps := ["_law_one", "_law_other", "_law_signs"]) (F := f_l_alike) (ir := b_l_alike) (sg := g_l_alike) rfl F6 (He.glo_ok X G (c.fact 6 (f := .glo "_law_alike") rfl)) sc_l_alike rfl (by decide) ok_l_alike (fun ds _ _ => rfl) fun _ _ _ _ _ _ us hl => match us, hl with | [_, _, _], _ => rfl
  have w8 : Gw P w K mg base T P8 8 := w7.next (N := N_l_words) (ps := ["_law_one", "_law_other"]) (F := f_l_words) (ir := b_l_words) (sg := g_l_words) rfl F7 (He.glo_ok X G (c.fact 7 (f := .glo "_law_words") rfl)) sc_l_words rfl (by decide) ok_l_words (fun ds _ _ => rfl) fun _ _ _ _ _ _ us hl => match us, hl with | [_, _], _ => rfl
  have w9 : Gw P w K mg base T P9 9 := w8.next (N := N_l_doors) (ps := ["_law_one", "_law_other"]) (F := f_l_doors) (ir := b_l_doors) (sg := g_l_doors) rfl F8 (He.glo_ok X G (c.fact 8 (f := .glo "_law_doors") rfl)) sc_l_doors rfl (by decide) ok_l_doors (fun ds _ _ => rfl) fun _ _ _ _ _ _ us hl => match us, hl with | [_, _], _ => rfl
  have w10 : Gw P w K mg base T P10 10 := w9.next (N := N_l_below) (ps := ["_law_words_here", "_law_cell", "_law_k", "_law_many"]) (F := f_l_below) (ir := b_l_below) (sg := g_l_below) rfl F9 (He.glo_ok X G (c.fact 9 (f := .glo "_law_below") rfl)) sc_l_below rfl (by decide) ok_l_below (fun ds _ _ => rfl) fun _ _ _ _ _ _ us hl => match us, hl with | [_, _, _, _], _ => rfl
  have w11 : Gw P w K mg base T P11 11 := w10.next (N := N_l_row) (ps := ["_law_words_here", "_law_top", "_law_cell"]) (F := f_l_row) (ir := b_l_row) (sg := g_l_row) rfl F10 (He.glo_ok X G (c.fact 10 (f := .glo "_law_row") rfl)) sc_l_row rfl (by decide) ok_l_row (fun ds _ _ => rfl) fun _ _ _ _ _ _ us hl => match us, hl with | [_, _, _], _ => rfl
  have w12 : Gw P w K mg base T P12 12 := w11.next (N := N_l_fits) (ps := ["_law_rows", "_law_row_here", "_law_top"]) (F := f_l_fits) (ir := b_l_fits) (sg := g_l_fits) rfl F11 (He.glo_ok X G (c.fact 11 (f := .glo "_law_fits") rfl)) sc_l_fits rfl (by decide) ok_l_fits (fun ds _ _ => rfl) fun _ _ _ _ _ _ us hl => match us, hl with | [_, _, _], _ => rfl
  have w13 : Gw P w K mg base T P13 13 := w12.next (N := N_l_is_zone) (ps := ["_law_found", "_law_due"]) (F := f_l_is_zone) (ir := b_l_is_zone) (sg := g_l_is_zone) rfl F12 (He.glo_ok X G (c.fact 12 (f := .glo "_law_is_zone") rfl)) sc_l_is_zone rfl (by decide) ok_l_is_zone (fun ds _ _ => rfl) fun _ _ _ _ _ _ us hl => match us, hl with | [_, _], _ => rfl
  have w14 : Gw P w K mg base T P14 14 := w13.next (N := N_l_just) (ps := ["_law_zones_here", "_law_door", "_law_top"]) (F := f_l_just) (ir := b_l_just) (sg := g_l_just) rfl F13 (He.glo_ok X G (c.fact 13 (f := .glo "_law_just") rfl)) sc_l_just rfl (by decide) ok_l_just (fun ds _ _ => rfl) fun _ _ _ _ _ _ us hl => match us, hl with | [_, _, _], _ => rfl
  have w15 : Gw P w K mg base T P15 15 := w14.next (N := N_l_best) (ps := ["_law_zones_here", "_law_door", "_law_name"]) (F := f_l_best) (ir := b_l_best) (sg := g_l_best) rfl F14 (He.glo_ok X G (c.fact 14 (f := .glo "_law_best") rfl)) sc_l_best rfl (by decide) ok_l_best (fun ds _ _ => rfl) fun _ _ _ _ _ _ us hl => match us, hl with | [_, _, _], _ => rfl
  have v0 : GwO P w K mg base T PT S O0 15 0 := GwO.start w15 S
  have v1 : GwO P w K mg base T PT S O1 16 1 := v0.next (N := N_l_zones) (ps := ["_law_words_here", "_law_doors_here", "_law_cells", "_law_more"]) (F := f_l_zones) (ir := b_l_zones) (sg := g_l_zones) rfl rfl F15 (He.glo_ok X G (c.fact 15 (f := .glo "_law_zones") rfl)) sc_l_zones rfl (by decide) ok_l_zones (fun as h _ _ => rfl) fun _ _ _ _ _ _ us hl => match us, hl with | [_, _, _, _], _ => rfl
  have v2 : GwO P w K mg base T PT S O2 17 2 := v1.next (N := N_l_houses) (ps := ["_law_zones_here"]) (F := f_l_houses) (ir := b_l_houses) (sg := g_l_houses) rfl rfl F16 (He.glo_ok X G (c.fact 16 (f := .glo "_law_houses") rfl)) sc_l_houses rfl (by decide) ok_l_houses (fun as h _ _ => rfl) fun _ _ _ _ _ _ us hl => match us, hl with | [_], _ => rfl
  have v3 : GwO P w K mg base T PT S O3 18 3 := v2.next (N := N_l_all_told) (ps := ["_law_houses_here", "_law_zones_here", "_law_doors_here", "_law_names"]) (F := f_l_all_told) (ir := b_l_all_told) (sg := g_l_all_told) rfl rfl F17 (He.glo_ok X G (c.fact 17 (f := .glo "_law_all_told") rfl)) sc_l_all_told rfl (by decide) ok_l_all_told (fun as h _ _ => rfl) fun _ _ _ _ _ _ us hl => match us, hl with | [_, _, _, _], _ => rfl
  exact law_end <| law_FO (N := N_law) (F := f_law) (ir := b_law) (sg := g_law) v3 F18 sc_law rfl (by decide) ok_law (fun as h _ _ => rfl)
end NK31
end

section
set_option maxHeartbeats 0
open PySem PySem.W PySem.Calls PyProof.Rows
theorem PySem.Challenge.cw_namewell_k31_the_zones_of_a_house_holds : PySem.Challenge.rw_namewell_k31_the_zones_of_a_house.Holds := by
  w_on; o_law
  refine HandSHeadRun.head_any (r := OpenLaw.row PySem.Challenge.rw_namewell_k31_the_zones_of_a_house) (q := view (OpenLaw.row PySem.Challenge.rw_namewell_k31_the_zones_of_a_house).prog [21]) (H := NK31.hk) (ob := NK31.ob) (M := 2600) (loose := NK31.loose) (d := HandSHeadRun.topDef (OpenLaw.row PySem.Challenge.rw_namewell_k31_the_zones_of_a_house).prog 21) (kwd := []) NK31.ob_eq
    (by kernel_rfl) (fun s => by kernel_rfl) NK31.run (by kernel_rfl) (by kernel_rfl) (by kernel_rfl) (by rfl) (by first | assumption | decide +kernel) (by decide +kernel) ⟨rfl, rfl, rfl, rfl, rfl, by decide +kernel⟩ ?hw ?hc
  case hw => w_witness2
  case hc =>
    refine L2.walk_ofE (l := PySem.Challenge.rw_namewell_k31_the_zones_of_a_house) (n := 63) (k := 19) (x := "_law_script") (CX := L2.CX0) rfl (by decide) (by kernel_rfl) ⟨rfl, by decide, by decide⟩ ?F (fun _ _ _ _ z => z)
    intro w mg fa h Y G hmg0
    obtain ⟨K, KX, c, cx⟩ := Y
    have hmg : mg ("law" : PySem.Str) = some (.ref fa) := by
      have e : (HandSHeadRun.topDef (OpenLaw.row PySem.Challenge.rw_namewell_k31_the_zones_of_a_house).prog 21).name = ("law" : PySem.Str) := by kernel_rfl
      rw [← e]
      exact hmg0
    obtain ⟨fd, hb, hF⟩ := NK31.facts (P := (PySem.Challenge.rw_namewell_k31_the_zones_of_a_house).prog) (w := w) KX G hmg c cx
    exact ⟨K, fd, fun vs H Q _ => NW.spO K mg NK31.g_law NK31.f_law vs H Q (fun _ _ _ => False), KX, hb, fun H a ns hl _ hS => NW.law_spO (NK31.law_true ns hl) hS, hF⟩
end
