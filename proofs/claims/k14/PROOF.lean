import PyProof.Rows.All
import Wide.All
import OpenK.AllK
import Wide.FinOn
import HandS.ForMost
import HandS.ForExc
import HandS.CallSlots
import HandS.Flow
import HandS.TupAny
import HandS.SuiteRaise
import HandS.IsInst
import HandS.StrMore
import HandS.SortOrd
import HandS.Defaults
import HandS.Head0
import HandS.Head1
import HandS.Head2
import HandS.HeadEnd
import HandS.HeadHook1
import HandS.HeadHook2
import HandS.TupMul
import KE.KxIndex
import KE.SortData
import HandS.ExcIs
import HandS.TryOnly
import HandS.ExcInitHot
import HandS.ExcField
import KE.KExcIs
import HandS.RaiseFrom
import KE.KIntText
import KE.KStrOpen
import PyProof.StrLawsChain
import PyProof.StrLawsTight
import PyProof.Rows.StrItems
import PySem.Challenge.RW_namewell_k14_a_wrong_line
set_option Elab.async false
set_option linter.all false
set_option maxRecDepth 100000
section
set_option maxHeartbeats 4000000
namespace NW
open PySem PySem.Spec PyProof.Rows L2

abbrev Dat := PyData

mutual
inductive Rep (K : PySem.W.Frag) (G : Hp) : V → Dat → Prop
  | non : Rep K G .non .none
  | bl (b : Bool) : Rep K G (.bl b) (.bool b)
  | int (i : Int) : Rep K G (.int i) (.int i)
  | str (x : Str) : Rep K G (.str x) (.str x)
  | lst {a : Addr} {xs : List V} {ds : List Dat} : SqL K G a xs → Reps K G xs ds → Rep K G (.ref a) (.list ds)
  | tup {a : Addr} {xs : List V} {ds : List Dat} : SqT K G a xs → Reps K G xs ds → Rep K G (.ref a) (.tuple ds)
  | dct {a : Addr} {kvs : List (Key × V)} {ds : List (Dat × Dat)} : Rd G a (.dK kvs) → Repd K G kvs ds → Rep K G (.ref a) (.dict ds)
inductive Reps (K : PySem.W.Frag) (G : Hp) : List V → List Dat → Prop
  | nil : Reps K G [] []
  | cons {v : V} {vs : List V} {d : Dat} {ds : List Dat} : Rep K G v d → Reps K G vs ds → Reps K G (v :: vs) (d :: ds)
inductive Repd (K : PySem.W.Frag) (G : Hp) : List (Key × V) → List (Dat × Dat) → Prop
  | nil : Repd K G [] []
  | int {i : Int} {v : V} {vs : List (Key × V)} {d : Dat} {ds : List (Dat × Dat)} : Rep K G v d → Repd K G vs ds → Repd K G ((.inl i, v) :: vs) ((.int i, d) :: ds)
  | str {x : Str} {v : V} {vs : List (Key × V)} {d : Dat} {ds : List (Dat × Dat)} : Rep K G v d → Repd K G vs ds → Repd K G ((.inr x, v) :: vs) ((.str x, d) :: ds)
end

/-! ### what stays -/
section
variable {K : PySem.W.Frag} {G G' : Hp}
theorem rd_keep (h : Same G G') {a : Addr} {o : HO} : Rd G a o → Rd G' a o
  | .inl q => .inl (h _ _ q)
  | .inr ⟨z, q⟩ => .inr ⟨z, h _ _ q⟩
theorem sqL_keep (h : Same G G') {a : Addr} {xs : List V} : SqL K G a xs → SqL K G' a xs
  | .inl q => .inl (rd_keep h q)
  | .inr q => .inr q
theorem sqT_keep (h : Same G G') {a : Addr} {xs : List V} : SqT K G a xs → SqT K G' a xs
  | .inl q => .inl (rd_keep h q)
  | .inr q => .inr q
mutual
theorem Rep.keep (h : Same G G') : ∀ (d : Dat) (v : V), Rep K G v d → Rep K G' v d
  | .none, _, r => by cases r; exact .non
  | .bool b, _, r => by cases r; exact .bl b
  | .int i, _, r => by cases r; exact .int i
  | .str x, _, r => by cases r; exact .str x
  | .list ds, _, r => by cases r with | lst q r => exact .lst (sqL_keep h q) (Reps.keep h ds _ r)
  | .tuple ds, _, r => by cases r with | tup q r => exact .tup (sqT_keep h q) (Reps.keep h ds _ r)
  | .dict ds, _, r => by cases r with | dct q r => exact .dct (rd_keep h q) (Repd.keep h ds _ r)
theorem Reps.keep (h : Same G G') : ∀ (ds : List Dat) (vs : List V), Reps K G vs ds → Reps K G' vs ds
  | [], _, r => by cases r; exact .nil
  | d :: ds, _, r => by cases r with | cons r t => exact .cons (Rep.keep h d _ r) (Reps.keep h ds _ t)
theorem Repd.keep (h : Same G G') : ∀ (ds : List (Dat × Dat)) (vs : List (Key × V)), Repd K G vs ds → Repd K G' vs ds
  | [], _, r => by cases r; exact .nil
  | (_, d) :: ds, _, r => by
    cases r with
    | int r t => exact .int (Rep.keep h d _ r) (Repd.keep h ds _ t)
    | str r t => exact .str (Rep.keep h d _ r) (Repd.keep h ds _ t)
end
theorem Rep.mono (h : Same G G') {d : Dat} {v : V} (r : Rep K G v d) : Rep K G' v d := Rep.keep h d v r
theorem Reps.mono (h : Same G G') {d : List Dat} {v : List V} (r : Reps K G v d) : Reps K G' v d := Reps.keep h d v r
theorem Repd.mono (h : Same G G') {d : List (Dat × Dat)} {v : List (Key × V)} (r : Repd K G v d) : Repd K G' v d := Repd.keep h d v r
theorem Reps.length {vs : List V} {ds : List Dat} (r : Reps K G vs ds) : vs.length = ds.length := by
  induction ds generalizing vs with
  | nil => cases r; rfl
  | cons d ds ih => cases r with | cons _ t => simp [ih t]
theorem Reps.get {vs : List V} {ds : List Dat} (r : Reps K G vs ds) : ∀ {i : Nat} {d : Dat}, ds[i]? = some d → ∃ v, vs[i]? = some v ∧ Rep K G v d := by
  induction ds generalizing vs with
  | nil => intro i d e; simp at e
  | cons d ds ih =>
    cases r with
    | cons r t =>
      intro i z e
      cases i with
      | zero => simp at e; subst e; exact ⟨_, rfl, r⟩
      | succ i => simp at e; obtain ⟨v, h1, h2⟩ := ih t e; exact ⟨v, by simpa using h1, h2⟩
theorem Reps.getV {vs : List V} {ds : List Dat} (r : Reps K G vs ds) {i : Nat} {v : V} (e : vs[i]? = some v) : ∃ d, ds[i]? = some d ∧ Rep K G v d := by
  have hi := (List.getElem?_eq_some_iff.mp e).1
  have hd : i < ds.length := by rw [← r.length]; exact hi
  obtain ⟨w, h1, h2⟩ := r.get (i := i) (d := ds[i]) (by simp [hd])
  rw [e] at h1; cases h1
  exact ⟨ds[i], by simp [hd], h2⟩
theorem Reps.append {vs ws : List V} {ds es : List Dat} (r : Reps K G vs ds) (q : Reps K G ws es) : Reps K G (vs ++ ws) (ds ++ es) := by
  induction ds generalizing vs with
  | nil => cases r; exact q
  | cons d ds ih => cases r with | cons r t => exact .cons r (ih t)
theorem Reps.take {vs : List V} {ds : List Dat} (r : Reps K G vs ds) (n : Nat) : Reps K G (vs.take n) (ds.take n) := by
  induction n generalizing vs ds with
  | zero => exact .nil
  | succ n ih =>
    cases ds with
    | nil => cases r; exact .nil
    | cons d ds => cases r with | cons r t => exact .cons r (ih t)
theorem Reps.drop {vs : List V} {ds : List Dat} (r : Reps K G vs ds) (n : Nat) : Reps K G (vs.drop n) (ds.drop n) := by
  induction n generalizing vs ds with
  | zero => exact r
  | succ n ih =>
    cases ds with
    | nil => cases r; exact .nil
    | cons d ds => cases r with | cons r t => exact ih t
theorem Reps.reverse {vs : List V} {ds : List Dat} (r : Reps K G vs ds) : Reps K G vs.reverse ds.reverse := by
  induction ds generalizing vs with
  | nil => cases r; exact .nil
  | cons d ds ih => cases r with | cons r t => rw [List.reverse_cons, List.reverse_cons]; exact (ih t).append (.cons r .nil)
theorem Reps.set {vs : List V} {ds : List Dat} (r : Reps K G vs ds) {v : V} {d : Dat} (q : Rep K G v d) (i : Nat) : Reps K G (vs.set i v) (ds.set i d) := by
  induction ds generalizing vs i with
  | nil => cases r; exact .nil
  | cons e ds ih =>
    cases r with
    | cons r t =>
      cases i with
      | zero => exact .cons q t
      | succ i => exact .cons r (ih t i)
theorem Reps.dropLast {vs : List V} {ds : List Dat} (r : Reps K G vs ds) : Reps K G vs.dropLast ds.dropLast := by
  rw [List.dropLast_eq_take, List.dropLast_eq_take, r.length]; exact r.take _
theorem Reps.ints (ns : List Int) : Reps K G (ns.map V.int) (ns.map PyData.int) := by
  induction ns with
  | nil => exact .nil
  | cons n ns ih => exact .cons (.int n) ih
theorem Reps.strs (ns : List Str) : Reps K G (ns.map V.str) (ns.map PyData.str) := by
  induction ns with
  | nil => exact .nil
  | cons n ns ih => exact .cons (.str n) ih
theorem Reps.strs_inv {vs : List V} {xs : List Str} (r : Reps K G vs (xs.map PyData.str)) : vs = xs.map V.str := by
  induction xs generalizing vs with
  | nil => cases r; rfl
  | cons x xs ih => cases r with | cons r t => cases r; rw [ih t]; rfl
theorem Reps.ints_inv {vs : List V} {xs : List Int} (r : Reps K G vs (xs.map PyData.int)) : vs = xs.map V.int := by
  induction xs generalizing vs with
  | nil => cases r; rfl
  | cons x xs ih => cases r with | cons r t => cases r; rw [ih t]; rfl
theorem Reps.bls_inv {vs : List V} {xs : List Bool} (r : Reps K G vs (xs.map PyData.bool)) : vs = xs.map V.bl := by
  induction xs generalizing vs with
  | nil => cases r; rfl
  | cons x xs ih => cases r with | cons r t => cases r; rw [ih t]; rfl
end

/-! ### the state goes on: H is added to, the still part G too, never by what stood in H -/
structure Ext (H G H' G' : Hp) : Prop where
  all : Same H H'
  stl : Same G G'
  sub : Same G' H'
  new : ∀ a, G' a ≠ none → G a ≠ none ∨ H a = none
theorem Ext.refl {H G : Hp} (h : Same G H) : Ext H G H G := ⟨Same.refl H, Same.refl G, h, fun _ q => .inl q⟩
theorem Ext.trans {H G H1 G1 H2 G2 : Hp} (a : Ext H G H1 G1) (b : Ext H1 G1 H2 G2) : Ext H G H2 G2 :=
  ⟨a.all.trans b.all, a.stl.trans b.stl, b.sub, fun c q => by
    rcases b.new c q with z | z
    · exact a.new c z
    · exact .inr (a.all.free z)⟩
/-- a new object, still from the start -/
theorem Ext.made {H G : Hp} (h : Same G H) {p : Addr} (np : H p = none) (o : HO) : Ext H G (upd H p o) (upd G p o) := by
  have ng : G p = none := h.free np
  refine ⟨fun b u e => ?_, fun b u e => ?_, fun b u e => ?_, fun a q => ?_⟩
  · rw [upd_ne (ne_of_none e np)]; exact e
  · rw [upd_ne (ne_of_none e ng)]; exact e
  · by_cases hb : b = p
    · subst hb; rw [upd_same] at e ⊢; exact e
    · rw [upd_ne hb] at e ⊢; exact h _ _ e
  · by_cases hb : a = p
    · subst hb; exact .inr np
    · rw [upd_ne hb] at q; exact .inl q
/-- a new object that isn't still -/
theorem Ext.laid {H G : Hp} (h : Same G H) {p : Addr} (np : H p = none) (o : HO) : Ext H G (upd H p o) G := by
  refine ⟨fun b u e => ?_, Same.refl G, fun b u e => ?_, fun a q => .inl q⟩
  · rw [upd_ne (ne_of_none e np)]; exact e
  · rw [upd_ne (ne_of_none (h _ _ e) np)]; exact h _ _ e

/-! ### == and != of data -/
section
variable {X : Cx} {pins : List (Addr × Obj)} {σ : L2.St} {H G : Hp} {s : Shared}
theorem rep_list (I : Inv X pins σ H s) (hs : Same G H) {v : V} {u : Value} {ds : List Dat} (r : Rep X.K G v (.list ds)) (ru : RelV v u) :
    ∃ a vs us, v = .ref a ∧ u = .ref a ∧ SqL X.K H a vs ∧ Reps X.K G vs ds ∧ Vals vs us ∧ s.heap.IsList a us.toArray := by
  cases r with
  | lst q r =>
    cases ru
    obtain ⟨us, rv, p, _⟩ := I.list (sqL_keep hs q)
    exact ⟨_, _, us, rfl, rfl, sqL_keep hs q, r, rv, p.isList⟩
theorem rep_tuple (I : Inv X pins σ H s) (hs : Same G H) {v : V} {u : Value} {ds : List Dat} (r : Rep X.K G v (.tuple ds)) (ru : RelV v u) :
    ∃ a vs us, v = .ref a ∧ u = .ref a ∧ SqT X.K H a vs ∧ Reps X.K G vs ds ∧ Vals vs us ∧ s.heap.IsTuple a us.toArray := by
  cases r with
  | tup q r =>
    cases ru
    obtain ⟨us, rv, p, _⟩ := I.tuple (sqT_keep hs q)
    exact ⟨_, _, us, rfl, rfl, sqT_keep hs q, r, rv, p⟩
mutual
/-- no dict within -/
def ndc : Dat → Bool
  | .dict _ => false
  | .list ds => ndcs ds
  | .tuple ds => ndcs ds
  | _ => true
def ndcs : List Dat → Bool
  | [] => true
  | d :: ds => ndc d && ndcs ds
end
/-- places of two lists told to be alike -/
def alike (ds es : List Dat) (j : Nat) : Bool := match ds[j]?, es[j]? with
  | some d, some e => PyData.eqv d e
  | _, _ => false
theorem alike_all : ∀ (ds es : List Dat), ds.length = es.length → (List.range ds.length).all (alike ds es) = PyData.eqvAll ds es
  | [], [], _ => rfl
  | [], _ :: _, h => by simp at h
  | _ :: _, [], h => by simp at h
  | d :: ds, e :: es, h => by
    have ih := alike_all ds es (by simpa using h)
    rw [List.length_cons, List.range_succ_eq_map, List.all_cons, List.all_map]
    show (PyData.eqv d e && (List.range ds.length).all (alike (d :: ds) (e :: es) ∘ Nat.succ)) = (PyData.eqv d e && PyData.eqvAll ds es)
    rw [← ih]
    rfl
theorem eqvAll_len : ∀ (ds es : List Dat), ds.length ≠ es.length → PyData.eqvAll ds es = false
  | [], [], h => absurd rfl h
  | [], _ :: _, _ => rfl
  | _ :: _, [], _ => rfl
  | d :: ds, e :: es, h => by
    show (PyData.eqv d e && PyData.eqvAll ds es) = false
    rw [eqvAll_len ds es (by simpa using h), Bool.and_false]
theorem alike_tup (ds es : List Dat) : ((List.range (min ds.length es.length)).all (alike ds es) && ds.length == es.length) = PyData.eqvAll ds es := by
  by_cases h : ds.length = es.length
  · rw [← alike_all ds es h, h, Nat.min_self]; simp
  · rw [eqvAll_len ds es h]; simp [h]
mutual
theorem eqv_refl : ∀ d : Dat, ndc d = true → PyData.eqv d d = true
  | .none, _ => rfl
  | .bool b, _ => by simp [PyData.eqv]
  | .int b, _ => by simp [PyData.eqv]
  | .str b, _ => by simp [PyData.eqv]
  | .list ds, h => by simp only [PyData.eqv]; exact eqvs_refl ds (by simpa [ndc] using h)
  | .tuple ds, h => by simp only [PyData.eqv]; exact eqvs_refl ds (by simpa [ndc] using h)
  | .dict _, h => by simp [ndc] at h
theorem eqvs_refl : ∀ d : List Dat, ndcs d = true → PyData.eqvAll d d = true
  | [], _ => rfl
  | d :: ds, h => by
    have h' : ndc d = true ∧ ndcs ds = true := by simpa [ndcs] using h
    simp only [PyData.eqvAll, eqv_refl d h'.1, eqvs_refl ds h'.2, Bool.and_self]
end
mutual
/-- one value stands for one thing -/
theorem Rep.inj (I : Inv X pins σ H s) (hs : Same G H) : ∀ (d e : Dat) (v : V), Rep X.K G v d → Rep X.K G v e → ndc d = true → ndc e = true → d = e
  | .none, _, _, r, q, _, _ => by cases r; cases q; rfl
  | .bool b, _, _, r, q, _, _ => by cases r; cases q; rfl
  | .int b, _, _, r, q, _, _ => by cases r; cases q; rfl
  | .str b, _, _, r, q, _, _ => by cases r; cases q; rfl
  | .list ds, e, _, r, q, hd, he => by
    cases r with
    | lst x1 r =>
      cases q with
      | lst x2 q =>
        have z := I.list_inj (sqL_keep hs x1) (sqL_keep hs x2)
        subst z
        rw [Reps.inj I hs ds _ _ r q (by simpa [ndc] using hd) (by simpa [ndc] using he)]
      | tup x2 q =>
        obtain ⟨us, _, p, _⟩ := I.list (sqL_keep hs x1)
        obtain ⟨ws, _, p2, _⟩ := I.tuple (sqT_keep hs x2)
        exact absurd rfl (SeqAt.ne_of_list_tuple p.isList p2)
      | dct x2 q => simp [ndc] at he
  | .tuple ds, e, _, r, q, hd, he => by
    cases r with
    | tup x1 r =>
      cases q with
      | tup x2 q =>
        have z := I.tuple_inj (sqT_keep hs x1) (sqT_keep hs x2)
        subst z
        rw [Reps.inj I hs ds _ _ r q (by simpa [ndc] using hd) (by simpa [ndc] using he)]
      | lst x2 q =>
        obtain ⟨us, _, p, _⟩ := I.list (sqL_keep hs x2)
        obtain ⟨ws, _, p2, _⟩ := I.tuple (sqT_keep hs x1)
        exact absurd rfl (SeqAt.ne_of_list_tuple p.isList p2)
      | dct x2 q => simp [ndc] at he
  | .dict _, _, _, _, _, h, _ => by simp [ndc] at h
theorem Reps.inj (I : Inv X pins σ H s) (hs : Same G H) : ∀ (ds es : List Dat) (vs : List V), Reps X.K G vs ds → Reps X.K G vs es → ndcs ds = true → ndcs es = true → ds = es
  | [], _, _, r, q, _, _ => by cases r; cases q; rfl
  | d :: ds, _, _, r, q, hd, he => by
    cases r with
    | cons r t =>
      cases q with
      | cons q t' =>
        have h1 : ndc d = true ∧ ndcs ds = true := by simpa [ndcs] using hd
        simp only [ndcs, Bool.and_eq_true] at he
        rw [Rep.inj I hs d _ _ r q h1.1 he.1, Reps.inj I hs ds _ _ t t' h1.2 he.2]
end
theorem in1_units (A : Around) : A.in1.units = A.units + 1 := rfl
mutual
theorem eqAt_rep (I : Inv X pins σ H s) (hs : Same G H) : ∀ (d e : Dat) (v w : V) (u x : Value) (A : Around), Rep X.K G v d → Rep X.K G w e → RelV v u → RelV w x → ndc d = true → ndc e = true → A.units + PyData.depth d < cLine →
    SeqAt.EqAt A s u x (PyData.eqv d e)
  | .none, e, _, w, _, x, A, r, q, ru, rx, _, he, hu => by
    cases r; cases ru
    cases q with
    | non => cases rx; exact SeqAt.EqAt.same _
    | bl b => cases rx; exact SeqAt.EqAt.none_bool b
    | int b => obtain ⟨t, rfl⟩ := rx; exact SeqAt.EqAt.none_int b t
    | str b => obtain ⟨t, rfl⟩ := rx; exact SeqAt.EqAt.none_str b t
    | lst q1 q2 => obtain ⟨_, _, _, e1, rfl, _, _, _, p⟩ := rep_list I hs (.lst q1 q2) rx; exact SeqAt.EqAt.none_list p (Nat.lt_of_le_of_lt (Nat.le_add_right _ _) hu)
    | tup q1 q2 => obtain ⟨_, _, _, e1, rfl, _, _, _, p⟩ := rep_tuple I hs (.tup q1 q2) rx; exact SeqAt.EqAt.none_tuple p (Nat.lt_of_le_of_lt (Nat.le_add_right _ _) hu)
    | dct _ _ => simp [ndc] at he
  | .bool a, e, _, w, _, x, A, r, q, ru, rx, _, he, hu => by
    cases r; cases ru
    cases q with
    | non => cases rx; exact SeqAt.EqAt.bool_none a
    | bl b => cases rx; exact SeqAt.EqAt.bool_bool a b
    | int b => obtain ⟨t, rfl⟩ := rx; exact SeqAt.EqAt.bool_int a b t
    | str b => obtain ⟨t, rfl⟩ := rx; exact SeqAt.EqAt.bool_str a b t
    | lst q1 q2 => obtain ⟨_, _, _, e1, rfl, _, _, _, p⟩ := rep_list I hs (.lst q1 q2) rx; exact SeqAt.EqAt.bool_list a p (Nat.lt_of_le_of_lt (Nat.le_add_right _ _) hu)
    | tup q1 q2 => obtain ⟨_, _, _, e1, rfl, _, _, _, p⟩ := rep_tuple I hs (.tup q1 q2) rx; exact SeqAt.EqAt.bool_tuple a p (Nat.lt_of_le_of_lt (Nat.le_add_right _ _) hu)
    | dct _ _ => simp [ndc] at he
  | .int a, e, _, w, _, x, A, r, q, ru, rx, _, he, hu => by
    cases r; obtain ⟨t', rfl⟩ := ru
    cases q with
    | non => cases rx; exact SeqAt.EqAt.int_none a t'
    | bl b => cases rx; exact SeqAt.EqAt.int_bool a t' b
    | int b => obtain ⟨t, rfl⟩ := rx; exact SeqAt.EqAt.int_int a t' b t
    | str b => obtain ⟨t, rfl⟩ := rx; exact SeqAt.EqAt.int_str a t' b t
    | lst q1 q2 => obtain ⟨_, _, _, e1, rfl, _, _, _, p⟩ := rep_list I hs (.lst q1 q2) rx; exact SeqAt.EqAt.int_list a t' p (Nat.lt_of_le_of_lt (Nat.le_add_right _ _) hu)
    | tup q1 q2 => obtain ⟨_, _, _, e1, rfl, _, _, _, p⟩ := rep_tuple I hs (.tup q1 q2) rx; exact SeqAt.EqAt.int_tuple a t' p (Nat.lt_of_le_of_lt (Nat.le_add_right _ _) hu)
    | dct _ _ => simp [ndc] at he
  | .str a, e, _, w, _, x, A, r, q, ru, rx, _, he, hu => by
    cases r; obtain ⟨t', rfl⟩ := ru
    cases q with
    | non => cases rx; exact SeqAt.EqAt.str_none a t'
    | bl b => cases rx; exact SeqAt.EqAt.str_bool a t' b
    | int b => obtain ⟨t, rfl⟩ := rx; exact SeqAt.EqAt.str_int a t' b t
    | str b => obtain ⟨t, rfl⟩ := rx; exact SeqAt.EqAt.str_str a t' b t
    | lst q1 q2 => obtain ⟨_, _, _, e1, rfl, _, _, _, p⟩ := rep_list I hs (.lst q1 q2) rx; exact SeqAt.EqAt.str_list a t' p (Nat.lt_of_le_of_lt (Nat.le_add_right _ _) hu)
    | tup q1 q2 => obtain ⟨_, _, _, e1, rfl, _, _, _, p⟩ := rep_tuple I hs (.tup q1 q2) rx; exact SeqAt.EqAt.str_tuple a t' p (Nat.lt_of_le_of_lt (Nat.le_add_right _ _) hu)
    | dct _ _ => simp [ndc] at he
  | .list ds, e, v, w, _, x, A, r, q, ru, rx, hd, he, hu => by
    obtain ⟨a, vs, us, e1, rfl, hS, rr, rv, p⟩ := rep_list I hs r ru
    have hA : A.units < cLine := Nat.lt_of_le_of_lt (Nat.le_add_right _ _) hu
    cases q with
    | non => cases rx; exact SeqAt.EqAt.list_none p hA
    | bl b => cases rx; exact SeqAt.EqAt.list_bool b p hA
    | int b => obtain ⟨t, rfl⟩ := rx; exact SeqAt.EqAt.list_int b t p hA
    | str b => obtain ⟨t, rfl⟩ := rx; exact SeqAt.EqAt.list_str b t p hA
    | tup q1 q2 => obtain ⟨_, _, _, e2, rfl, _, _, _, p2⟩ := rep_tuple I hs (.tup q1 q2) rx; exact SeqAt.EqAt.list_tuple p p2 hA
    | @lst a2 vs2 ds2 q1 q2 =>
      obtain ⟨b, ws, xs, e2, rfl, hS2, rr2, rv2, p2⟩ := rep_list I hs (.lst q1 q2) rx
      by_cases hab : a = b
      · subst hab
        have z : (PyData.list ds) = .list ds2 := Rep.inj I hs _ _ v r (by rw [e1, ← e2]; exact .lst q1 q2) hd he
        cases z
        rw [eqv_refl _ hd]
        exact SeqAt.EqAt.same _
      · show SeqAt.EqAt A s (.ref a) (.ref b) (PyData.eqvAll ds ds2)
        have n1 : us.toArray.size = ds.length := by rw [List.size_toArray, ← rr.length, rv.length]
        have n2 : xs.toArray.size = ds2.length := by rw [List.size_toArray, ← rr2.length, rv2.length]
        refine .of_refs hab ?_
        by_cases hz : ds.length = ds2.length
        · rw [← alike_all ds ds2 hz, ← n1]
          refine SeqAt.RcAt.lists p p2 (by rw [n1, n2, hz]) hA fun j h1 h2 => ?_
          exact eqsAt_rep I hs ds ds2 vs ws us xs A.in1 rr rr2 rv rv2 (by simpa [ndc] using hd) (by simpa [ndc] using he) (by rw [in1_units]; simp only [PyData.depth] at hu; omega) j (by simpa using h1) (by simpa using h2)
        · rw [eqvAll_len ds ds2 hz]
          exact SeqAt.RcAt.lists_lengths p p2 (by rw [n1, n2]; simpa using hz) hA
    | dct _ _ => simp [ndc] at he
  | .tuple ds, e, v, w, _, x, A, r, q, ru, rx, hd, he, hu => by
    obtain ⟨a, vs, us, e1, rfl, hS, rr, rv, p⟩ := rep_tuple I hs r ru
    have hA : A.units < cLine := Nat.lt_of_le_of_lt (Nat.le_add_right _ _) hu
    cases q with
    | non => cases rx; exact SeqAt.EqAt.tuple_none p hA
    | bl b => cases rx; exact SeqAt.EqAt.tuple_bool b p hA
    | int b => obtain ⟨t, rfl⟩ := rx; exact SeqAt.EqAt.tuple_int b t p hA
    | str b => obtain ⟨t, rfl⟩ := rx; exact SeqAt.EqAt.tuple_str b t p hA
    | lst q1 q2 => obtain ⟨_, _, _, e2, rfl, _, _, _, p2⟩ := rep_list I hs (.lst q1 q2) rx; exact SeqAt.EqAt.tuple_list p p2 hA
    | @tup a2 vs2 ds2 q1 q2 =>
      obtain ⟨b, ws, xs, e2, rfl, hS2, rr2, rv2, p2⟩ := rep_tuple I hs (.tup q1 q2) rx
      by_cases hab : a = b
      · subst hab
        have z : (PyData.tuple ds) = .tuple ds2 := Rep.inj I hs _ _ v r (by rw [e1, ← e2]; exact .tup q1 q2) hd he
        cases z
        rw [eqv_refl _ hd]
        exact SeqAt.EqAt.same _
      · show SeqAt.EqAt A s (.ref a) (.ref b) (PyData.eqvAll ds ds2)
        have n1 : us.toArray.size = ds.length := by rw [List.size_toArray, ← rr.length, rv.length]
        have n2 : xs.toArray.size = ds2.length := by rw [List.size_toArray, ← rr2.length, rv2.length]
        refine .of_refs hab ?_
        rw [← alike_tup ds ds2, ← n1, ← n2]
        refine SeqAt.RcAt.tuples p p2 hA fun j h1 h2 => ?_
        exact eqsAt_rep I hs ds ds2 vs ws us xs A.in1 rr rr2 rv rv2 (by simpa [ndc] using hd) (by simpa [ndc] using he) (by rw [in1_units]; simp only [PyData.depth] at hu; omega) j (by simpa using h1) (by simpa using h2)
    | dct _ _ => simp [ndc] at he
  | .dict _, _, _, _, _, _, _, _, _, _, _, h, _, _ => by simp [ndc] at h
theorem eqsAt_rep (I : Inv X pins σ H s) (hs : Same G H) : ∀ (ds es : List Dat) (vs ws : List V) (us xs : List Value) (A : Around), Reps X.K G vs ds → Reps X.K G ws es → Vals vs us → Vals ws xs → ndcs ds = true → ndcs es = true →
    A.units + PyData.depthAll ds < cLine → ∀ (j : Nat) (h1 : j < us.length) (h2 : j < xs.length), SeqAt.EqAt A s us[j] xs[j] (alike ds es j)
  | [], _, _, _, _, _, _, r, _, ru, _, _, _, _ => by
    cases r; cases ru
    intro j h1
    simp at h1
  | d :: ds, es, _, _, _, _, A, r, q, ru, rx, hd, he, hu => by
    cases r with
    | cons r t =>
      cases ru with
      | cons r1 t1 =>
        cases q with
        | nil =>
          cases rx
          intro j _ h2
          simp at h2
        | cons q t2 =>
          cases rx with
          | cons r2 t3 =>
            have h1' : ndc d = true ∧ ndcs ds = true := by simpa [ndcs] using hd
            simp only [ndcs, Bool.and_eq_true] at he
            simp only [PyData.depthAll] at hu
            intro j k1 k2
            cases j with
            | zero => exact eqAt_rep I hs d _ _ _ _ _ A r q r1 r2 h1'.1 he.1 (by omega)
            | succ j => exact eqsAt_rep I hs ds _ _ _ _ _ A t t2 t1 t3 h1'.2 he.2 (by omega) j (by simpa using k1) (by simpa using k2)
end
end
end NW
end

section
set_option maxHeartbeats 4000000
/-! What a def's text means over plain data: expressions, statements, without a heap. -/
namespace NW
open PySem PySem.Spec PyProof.Rows L2

inductive Res (α : Type) where
  | ok (a : α)
  | exc (c : Str) (x : Option Dat)
  | bad
def Res.bind {α β : Type} (r : Res α) (f : α → Res β) : Res β := match r with
  | .ok a => f a
  | .exc c x => .exc c x
  | .bad => .bad
instance : Monad Res where
  pure := .ok
  bind := Res.bind
theorem nrfl {α : Type} {a b : α} (h : a = b) : a = b := h
@[simp] theorem ok_bind {α β : Type} (a : α) (f : α → Res β) : (Res.ok a >>= f) = f a := nrfl rfl
@[simp] theorem exc_bind {α β : Type} (c : Str) (x : Option Dat) (f : α → Res β) : ((Res.exc c x : Res α) >>= f) = .exc c x := nrfl rfl
@[simp] theorem bad_bind {α β : Type} (f : α → Res β) : ((Res.bad : Res α) >>= f) = .bad := nrfl rfl
@[simp] theorem pure_ok {α : Type} (a : α) : (pure a : Res α) = .ok a := nrfl rfl

/-- a slot: nothing; a thing that stays as it is; a list of this def's own; a list that is lent -/
inductive Sl where
  | un
  | fz (d : Dat)
  | ow (ds : List Dat)
  | ln (ds : List Dat)
  | ex (a : Addr) (dx : Option Addr) (c : Str) (x : Option Dat)
abbrev En := List Sl

/-! ### operations -/
inductive Bop where | add | sub | mul | div | mod | pow
inductive Cop where | eq | ne | lt | le | gt | ge | isin | nin | isN | ntN
/-- what may be compared -/
def shOk (d : Dat) : Bool := ndc d && decide (PyData.depth d ≤ 100)
def binD : Bop → Dat → Dat → Res Dat
  | .add, .int a, .int b => .ok (.int (a + b))
  | .add, .str a, .str b => if a.length + b.length ≤ 1000000 then .ok (.str (a ++ b)) else .bad
  | .add, .tuple a, .tuple b => if a.length + b.length ≤ 1000000 then .ok (.tuple (a ++ b)) else .bad
  | .add, .list a, .list b => if a.length + b.length ≤ 1000000 then .ok (.list (a ++ b)) else .bad
  | .sub, .int a, .int b => .ok (.int (a - b))
  | .mul, .int a, .int b => if (-(2 ^ 64) < a ∧ a < 2 ^ 64) ∨ (-(2 ^ 64) < b ∧ b < 2 ^ 64) then .ok (.int (a * b)) else .bad
  | .mul, .str a, .int b => if a.length ≤ 16 ∧ 0 ≤ b ∧ b ≤ 1000 then .ok (.str (Txt.mul a b)) else .bad
  | .mul, .tuple a, .int b => if b = 0 ∨ b = 1 then .ok (.tuple (if b = 1 then a else [])) else .bad
  | .div, .int a, .int b => if b ≠ 0 ∧ b.natAbs < 1073741824 then .ok (.int (a.fdiv b)) else .bad
  | .mod, .int a, .int b => if b ≠ 0 then .ok (.int (a.fmod b)) else .bad
  | .pow, .int a, .int b => if 0 ≤ b ∧ b ≤ 1000000 ∧ a.natAbs < 2 ^ 64 then .ok (.int (a ^ b.toNat)) else .bad
  | _, _, _ => .bad
def inD (x : Dat) : List Dat → Bool
  | [] => false
  | y :: ys => PyData.eqv y x || inD x ys
def strIn (a b : Str) : Bool := match a.cps.toList with
  | [c] => decide (c ∈ b.cps.toList)
  | _ => !(Builtin.Str.occurrences b a 0 b.length 1).isEmpty
/-- a in b -/
def inB (a : Dat) : Dat → Res Bool
  | .list b => if shOk a && shOk (.list b) then .ok (inD a b) else .bad
  | .tuple b => if shOk a && shOk (.tuple b) then .ok (inD a b) else .bad
  | .str b => match a with
    | .str a => .ok (strIn a b)
    | _ => .bad
  | _ => .bad
def cmpD : Cop → Dat → Dat → Res Bool
  | .eq, a, b => if shOk a && shOk b then .ok (PyData.eqv a b) else .bad
  | .ne, a, b => if shOk a && shOk b then .ok (!PyData.eqv a b) else .bad
  | .lt, .int a, .int b => .ok (decide (a < b))
  | .le, .int a, .int b => .ok (decide (a ≤ b))
  | .gt, .int a, .int b => .ok (decide (b < a))
  | .ge, .int a, .int b => .ok (decide (b ≤ a))
  | .lt, .str a, .str b => .ok (decide (a.cps.toList < b.cps.toList))
  | .le, .str a, .str b => .ok (!decide (b.cps.toList < a.cps.toList))
  | .gt, .str a, .str b => .ok (decide (b.cps.toList < a.cps.toList))
  | .ge, .str a, .str b => .ok (!decide (a.cps.toList < b.cps.toList))
  | .isin, a, b => inB a b
  | .nin, a, b => inB a b >>= fun r => .ok (!r)
  | .isN, .none, .none => .ok true
  | .isN, _, .none => .ok false
  | .ntN, .none, .none => .ok false
  | .ntN, _, .none => .ok true
  | _, _, _ => .bad
@[simp] def truD : Dat → Res Bool
  | .none => .ok false
  | .bool b => .ok b
  | .int i => .ok (i != 0)
  | .str s => if s.length ≤ 1000000 then .ok (decide (s.length ≠ 0)) else .bad
  | .list ds => .ok (!ds.isEmpty)
  | .tuple ds => .ok (!ds.isEmpty)
  | .dict _ => .bad
@[simp] def ixD : Dat → Dat → Res Dat
  | .list ds, .int i => match atI ds i with
    | some d => .ok d
    | none => .bad
  | .tuple ds, .int i => match atI ds i with
    | some d => .ok d
    | none => .bad
  | .str s, .int i => if s.length ≤ 1000000 then (match atI s.cps.toList i with
    | some c => .ok (.str ⟨#[c]⟩)
    | none => .bad) else .bad
  | _, _ => .bad
/-- xs[lo:hi] -/
def cutL {α : Type} (xs : List α) (lo hi : Option Int) : List α := (xs.drop (HT.sIx xs.length 0 lo)).take (HT.sIx xs.length xs.length hi - HT.sIx xs.length 0 lo)
@[simp] def slD (d : Dat) (lo hi : Option Int) : Res Dat := match d with
  | .list ds => .ok (.list (cutL ds lo hi))
  | .tuple ds => .ok (.tuple (cutL ds lo hi))
  | .str s => if s.length ≤ 1000000 then .ok (.str (cutS s lo hi)) else .bad
  | _ => .bad
def strsD : List Dat → Option (List Str)
  | [] => some []
  | .str x :: r => (strsD r).map (x :: ·)
  | _ :: _ => none
def intsD : List Dat → Option (List Int)
  | [] => some []
  | .int x :: r => (intsD r).map (x :: ·)
  | _ :: _ => none
def boolsD : List Dat → Option (List Bool)
  | [] => some []
  | .bool x :: r => (boolsD r).map (x :: ·)
  | _ :: _ => none
/-- texts in order -/
def leS (a b : Str) : Bool := !ltCps b.cps.toList a.cps.toList
def sortStr (xs : List Str) : List Str := xs.mergeSort leS
def minL (n : Int) (r : List Int) : Int := r.foldl (fun a b => if b < a then b else a) n
def anyD (ds : List Dat) : Res Dat := match boolsD ds with
  | some bs => .ok (.bool (bs.any id))
  | none => .bad
def allD (ds : List Dat) : Res Dat := match boolsD ds with
  | some bs => .ok (.bool (bs.all id))
  | none => .bad
def minD (ds : List Dat) : Res Dat := match intsD ds with
  | some (n :: r) => .ok (.int (minL n r))
  | _ => .bad
/-- names in order -/
def ltN : List Str → List Str → Bool
  | [], [] => false
  | [], _ :: _ => true
  | _ :: _, [] => false
  | a :: r, b :: q => if a = b then ltN r q else decide (a.cps.toList < b.cps.toList)
def leN (a b : List Str) : Bool := !ltN b a
def sortN (N : List (List Str)) : List (List Str) := N.mergeSort leN
def namesD : List Dat → Option (List (List Str))
  | [] => some []
  | .tuple d :: r => match strsD d with
    | some a => (namesD r).map (a :: ·)
    | none => none
  | _ :: _ => none
def sortND (ds : List Dat) : Res Dat := match namesD ds with
  | some N => if N.length < 64 then .ok (.list ((sortN N).map fun a => .tuple (a.map PyData.str))) else .bad
  | none => .bad
def sortD (ds : List Dat) : Res Dat := match strsD ds with
  | some xs => if xs.length < 64 then .ok (.list ((sortStr xs).map PyData.str)) else .bad
  | none => sortND ds
inductive Bi where | len | min2 | max2 | int | str | ord | tuple | list | any | all | min1 | sorted
@[simp] def biD : Bi → List Dat → Res Dat
  | .len, [.str s] => if s.length ≤ 1000000 then .ok (.int s.length) else .bad
  | .len, [.list ds] => .ok (.int ds.length)
  | .len, [.tuple ds] => .ok (.int ds.length)
  | .min2, [.int a, .int b] => .ok (.int (if b < a then b else a))
  | .max2, [.int a, .int b] => .ok (.int (if b > a then b else a))
  | .int, [.str s] => match PySem.intText? s with
    | some n => if s.length ≤ 640 then .ok (.int n) else .bad
    | none => .bad
  | .int, [.bool b] => .ok (.int (if b then 1 else 0))
  | .str, [.int i] => if i.natAbs.log2 < 1920 then .ok (.str (toString i)) else .bad
  | .ord, [.str s] => if s.length = 1 then .ok (.int ((s.cps.getD 0 0 : Nat) : Int)) else .bad
  | .tuple, [.list ds] => .ok (.tuple ds)
  | .tuple, [.tuple ds] => .ok (.tuple ds)
  | .list, [.list ds] => .ok (.list ds)
  | .list, [.tuple ds] => .ok (.list ds)
  | .any, [.list ds] => anyD ds
  | .all, [.list ds] => allD ds
  | .min1, [.list ds] => minD ds
  | .sorted, [.list ds] => sortD ds
  | _, _ => .bad
/-- isinstance of a built-in class -/
inductive Ty where | int | str | bool | tuple | list
  deriving DecidableEq
@[simp] def isiD : Ty → Dat → Res Bool
  | .int, .int _ => .ok true
  | .int, .bool _ => .ok true
  | .str, .str _ => .ok true
  | .bool, .bool _ => .ok true
  | .tuple, .tuple _ => .ok true
  | .list, .list _ => .ok true
  | _, .dict _ => .bad
  | _, _ => .ok false
inductive M0 where | lower | upper
def m0D : M0 → Dat → Res Dat
  | .lower, .str a => if a.length ≤ 1000000 then .ok (.str (Txt.lower a)) else .bad
  | .upper, .str a => if a.length ≤ 1000000 then .ok (.str (Txt.upper a)) else .bad
  | _, _ => .bad
inductive M1 where | startswith | endswith | split | join | index | rstrip | find
def joinD (a : Str) (ds : List Dat) : Res Dat := match strsD ds with
  | some ys => if (ys.map (·.length)).sum + ys.length * a.length ≤ 1000000 then .ok (.str (Txt.join a ys)) else .bad
  | none => .bad
def m1D : M1 → Dat → Dat → Res Dat
  | .startswith, .str a, .str b => .ok (.bool (Txt.startswith a b))
  | .endswith, .str a, .str b => .ok (.bool (Txt.endswith a b))
  | .split, .str a, .str b => if b.length ≠ 0 ∧ a.length ≤ 1000000 then .ok (.list ((Txt.split a b).map PyData.str)) else .bad
  | .join, .str a, .list ds => joinD a ds
  | .join, .str a, .tuple ds => joinD a ds
  | .index, .str a, .str b => match Builtin.Str.occurrences a b 0 a.length 1 with
    | k :: _ => .ok (.int (k : Nat))
    | [] => .bad
  | .find, .str a, .str b => .ok (.int (Txt.find a b))
  | .rstrip, .str a, .str b => if a.length ≤ 1000000 then .ok (.str (Txt.rstripChars a b)) else .bad
  | _, _, _ => .bad

/-! ### the text -/
inductive Tg where
  | nm (i : Nat)
  | tp (is : List Nat)
mutual
inductive E where
  | var (i : Nat) | tv (i : Nat)
  | non | bl (b : Bool) | int (i : Int) | str (x : Str)
  | con (k : Nat)
  | bin (o : Bop) (a b : E)
  | neg (a : E)
  | cmp (o : Cop) (a b : E)
  | chn (o p : Cop) (a b c : E)
  | and (a b : E) | or (a b : E) | not (a : E)
  | ife (c a b : E)
  | ix (a i : E)
  | sl (a lo hi : E)
  | no
  | tup (es : Es) | lst (es : Es)
  | cal (k : Nat) (es : Es)
  | calk (k : Nat) (es : Es) (w : Str) (e : E)
  | bi (f : Bi) (es : Es)
  | isi (t : Ty) (e : E)
  | iss (a : Addr) (dx : Option Addr) (c : Str) (i : Nat) (C : Str)
  | xrw (a : Addr) (dx : Option Addr) (c : Str) (i : Nat)
  | nrw (c : Str) (e : E)
  | m0 (m : M0) (o : E)
  | m1 (m : M1) (o e : E)
  | lc (own : List Nat) (tg : Tg) (it : It) (tt elt : E)
inductive Es where
  | nil | cons (e : E) (r : Es)
inductive It where
  | seq (e : E) | lent (i : Nat) | own (i : Nat) | rng1 (a : E) | rng2 (a b : E)
end
/-- the program: its defs by number, its constants -/
structure Pg where
  F : Nat → List Dat → Res Dat
  C : Nat → Dat
  /-- does an exception of the first class meet a clause of the second -/
  X : Str → Str → Option Bool
  /-- is an exception of the first class an instance of the second -/
  I : Str → Str → Option Bool

def getS (ρ : En) (i : Nat) : Sl := ρ.getD i .un
@[simp] def unS : List Nat → En → En
  | [], ρ => ρ
  | i :: is, ρ => (unS is ρ).set i .un
@[simp] def setT : Tg → Dat → En → Res En
  | .nm i, d, ρ => .ok (ρ.set i (.fz d))
  | .tp is, .tuple ds, ρ => if ds.length = is.length then .ok ((is.zip ds).foldl (fun r p => r.set p.1 (.fz p.2)) ρ) else .bad
  | .tp _, _, _ => .bad
@[simp] def partD : Dat → Res (Option Int)
  | .int i => .ok (some i)
  | _ => .bad
/-- nothing may be raised here -/
def noX {α : Type} : Res α → Res α
  | .ok a => .ok a
  | _ => .bad
@[simp] theorem noX_ok {α : Type} (a : α) : noX (.ok a) = .ok a := nrfl rfl
@[simp] theorem noX_bad {α : Type} : noX (.bad : Res α) = .bad := nrfl rfl
def lcL (f : Dat → Res (Option Dat)) : List Dat → Res (List Dat)
  | [] => .ok []
  | x :: xs => f x >>= fun o => lcL f xs >>= fun r => .ok (match o with
    | some y => y :: r
    | none => r)
def rngL (a : Int) (n : Nat) : List Dat := (List.range n).map fun i => PyData.int (a + (i : Nat))
@[simp] def itemsD : Dat → Res (List Dat)
  | .list ds => .ok ds
  | .tuple ds => .ok ds
  | .str s => .ok (s.cps.toList.map fun c => PyData.str ⟨#[c]⟩)
  | _ => .bad
def small62 (a : Int) : Bool := decide (-(2 ^ 62) ≤ a ∧ a < 2 ^ 62)
@[simp] def strD : Dat → Res Str
  | .str s => .ok s
  | _ => .bad
/-- a part of a slice, left out or an int -/
@[simp] def optE : E → Res Dat → Res (Option Int)
  | .no, _ => .ok none
  | _, r => r >>= fun d => partD d
mutual
def ev (P : Pg) : E → En → Res Dat
  | .var i, ρ => match getS ρ i with
    | .fz d => .ok d
    | _ => .bad
  | .tv i, ρ => match getS ρ i with
    | .fz (.list ds) => .ok (.list ds)
    | .ow ds => .ok (.list ds)
    | .ln ds => .ok (.list ds)
    | _ => .bad
  | .non, _ => .ok .none
  | .bl b, _ => .ok (.bool b)
  | .int i, _ => .ok (.int i)
  | .str x, _ => .ok (.str x)
  | .con k, _ => .ok (P.C k)
  | .bin o a b, ρ => ev P a ρ >>= fun d => ev P b ρ >>= fun e => binD o d e
  | .neg a, ρ => ev P a ρ >>= fun d => match d with
    | .int i => .ok (.int (-i))
    | _ => .bad
  | .cmp o a b, ρ => ev P a ρ >>= fun d => ev P b ρ >>= fun e => cmpD o d e >>= fun r => .ok (.bool r)
  | .chn o p a b c, ρ => ev P a ρ >>= fun d => ev P b ρ >>= fun e => cmpD o d e >>= fun r => match r with
    | true => ev P c ρ >>= fun f => cmpD p e f >>= fun r => .ok (.bool r)
    | false => .ok (.bool false)
  | .and a b, ρ => ev P a ρ >>= fun d => truD d >>= fun r => match r with
    | true => ev P b ρ
    | false => .ok d
  | .or a b, ρ => ev P a ρ >>= fun d => truD d >>= fun r => match r with
    | true => .ok d
    | false => ev P b ρ
  | .not a, ρ => ev P a ρ >>= fun d => truD d >>= fun r => .ok (.bool (!r))
  | .ife c a b, ρ => ev P c ρ >>= fun d => truD d >>= fun r => match r with
    | true => ev P a ρ
    | false => ev P b ρ
  | .ix a i, ρ => ev P a ρ >>= fun d => ev P i ρ >>= fun e => ixD d e
  | .sl a lo hi, ρ => ev P a ρ >>= fun d => optE lo (ev P lo ρ) >>= fun l => optE hi (ev P hi ρ) >>= fun h => slD d l h
  | .no, _ => .bad
  | .tup es, ρ => evs P es ρ >>= fun ds => if ds.length ≤ 1000000 then .ok (.tuple ds) else .bad
  | .lst es, ρ => evs P es ρ >>= fun ds => if ds.length ≤ 1000000 then .ok (.list ds) else .bad
  | .cal k es, ρ => evs P es ρ >>= fun ds => P.F k ds
  | .calk k es _ e, ρ => evs P es ρ >>= fun ds => ev P e ρ >>= fun d => P.F k (ds ++ [d])
  | .bi f es, ρ => evs P es ρ >>= fun ds => biD f ds
  | .iss a dx c i C, ρ => match getS ρ i with
    | .ex a' dx' c' _ => if a' = a ∧ dx' = dx ∧ c' = c then (match P.I c C with
      | some b => .ok (.bool b)
      | none => .bad) else .bad
    | _ => .bad
  | .nrw _ e, ρ => ev P e ρ
  | .xrw a dx c i, ρ => match getS ρ i with
    | .ex a' dx' c' (some d) => if a' = a ∧ dx' = dx ∧ c' = c then .ok d else .bad
    | _ => .bad
  | .isi t e, ρ => ev P e ρ >>= fun d => isiD t d >>= fun r => .ok (.bool r)
  | .m0 m o, ρ => ev P o ρ >>= fun d => m0D m d
  | .m1 m o a, ρ => ev P o ρ >>= fun d => strD d >>= fun s => ev P a ρ >>= fun e => m1D m (.str s) e
  | .lc own tg it tt elt, ρ => evI P it ρ >>= fun xs => if xs.length ≤ 1000000 then
      lcL (fun x => noX (setT tg x (unS own ρ) >>= fun ρ1 => ev P tt ρ1 >>= fun t => truD t >>= fun r => match r with
        | true => ev P elt ρ1 >>= fun y => .ok (some y)
        | false => .ok none)) xs >>= fun ys => .ok (.list ys) else .bad
def evs (P : Pg) : Es → En → Res (List Dat)
  | .nil, _ => .ok []
  | .cons e r, ρ => ev P e ρ >>= fun d => evs P r ρ >>= fun ds => .ok (d :: ds)
def evI (P : Pg) : It → En → Res (List Dat)
  | .seq e, ρ => ev P e ρ >>= fun d => itemsD d
  | .lent i, ρ => match getS ρ i with
    | .ln ds => .ok ds
    | _ => .bad
  | .own i, ρ => match getS ρ i with
    | .ow ds => .ok ds
    | _ => .bad
  | .rng1 a, ρ => ev P a ρ >>= fun d => match d with
    | .int n => if small62 n then .ok (rngL 0 n.toNat) else .bad
    | _ => .bad
  | .rng2 a b, ρ => ev P a ρ >>= fun d => ev P b ρ >>= fun e => match d, e with
    | .int m, .int n => if small62 m && small62 n then .ok (rngL m (n - m).toNat) else .bad
    | _, _ => .bad
end

/-! ### statements -/
inductive Out where
  | nx (ρ : En) | ct (ρ : En) | ret (d : Dat) | exc (c : Str) (x : Option Dat) | bad
def Out.of {α : Type} (r : Res α) (f : α → Out) : Out := match r with
  | .ok a => f a
  | .exc c x => .exc c x
  | .bad => .bad
@[simp] theorem out_ok {α : Type} (a : α) (f : α → Out) : Out.of (.ok a) f = f a := nrfl rfl
@[simp] theorem out_bad {α : Type} (f : α → Out) : Out.of (.bad : Res α) f = .bad := nrfl rfl
@[simp] theorem out_exc {α : Type} (c : Str) (x : Option Dat) (f : α → Out) : Out.of (.exc c x : Res α) f = .exc c x := nrfl rfl
mutual
inductive S where
  | set (i : Nat) (e : E)
  | setO (i : Nat) (e : E)
  | tup (is : List Nat) (e : E)
  | app (i : Nat) (e : E)
  | rev (i : Nat)
  | ext (i : Nat) (e : E)
  | ifs (c : E) (a b : Ss)
  | for_ (tmp : List Nat) (tg : Tg) (it : It) (body : Ss)
  | whil (fuel : En → Nat) (tmp : List Nat) (c : E) (body : Ss)
  | ret (e : E) | retF (fl : List Bool) (es : Es) | retL (es : Es) (i : Nat) | retC (e : E) | retO (e : E) | retV (i : Nat) | retN
  | expr (e : E)
  | pass | cont
  | rais (c : Str)
  | nope
  | raisX (c : Str) (e : E)
  | tryX (e : E) (c d : Str) (i : Nat)
  | tryR (e : E) (c : Str) (i j : Nat) (ns : List (List Str))
  | tryB (e : E) (c : Str)
  | tryI (e : E) (c : Str) (i j : Nat) (n1 n2 : List Str)
  | tryE (i : Option Nat) (e : E) (c : Str) (j : Nat) (h : E)
inductive Ss where
  | nil | cons (s : S) (r : Ss) | frz (i : Nat) (r : Ss)
  | lease (i : Nat) (e c1 r c2 : E) (k : Nat) (o : Option E) (rest : Ss)
end
/-- then -/
def Out.thn (o : Out) (f : En → Out) : Out := match o with
  | .nx ρ => f ρ
  | o => o
@[simp] theorem thn_nx (ρ : En) (f : En → Out) : (Out.nx ρ).thn f = f ρ := nrfl rfl
@[simp] theorem thn_ct (ρ : En) (f : En → Out) : (Out.ct ρ).thn f = .ct ρ := nrfl rfl
@[simp] theorem thn_ret (d : Dat) (f : En → Out) : (Out.ret d).thn f = .ret d := nrfl rfl
@[simp] theorem thn_bad (f : En → Out) : (Out.bad).thn f = .bad := nrfl rfl
@[simp] theorem thn_exc (c : Str) (x : Option Dat) (f : En → Out) : (Out.exc c x).thn f = .exc c x := nrfl rfl
/-- a turn's end -/
def Out.turn (o : Out) (f : En → Out) : Out := match o with
  | .nx ρ => f ρ
  | .ct ρ => f ρ
  | o => o
@[simp] theorem turn_nx (ρ : En) (f : En → Out) : (Out.nx ρ).turn f = f ρ := nrfl rfl
@[simp] theorem turn_ct (ρ : En) (f : En → Out) : (Out.ct ρ).turn f = f ρ := nrfl rfl
@[simp] theorem turn_ret (d : Dat) (f : En → Out) : (Out.ret d).turn f = .ret d := nrfl rfl
@[simp] theorem turn_bad (f : En → Out) : (Out.bad).turn f = .bad := nrfl rfl
@[simp] theorem turn_exc (c : Str) (x : Option Dat) (f : En → Out) : (Out.exc c x).turn f = .exc c x := nrfl rfl
/-- xs in turn; tmp: what is forgotten ahead of each turn and behind the last -/
def forL (tmp : List Nat) (f : Dat → En → Out) : List Dat → En → Out
  | [], ρ => .nx (unS tmp ρ)
  | x :: xs, ρ => (f x (unS tmp ρ)).turn (forL tmp f xs)
def whilL (tmp : List Nat) (c : En → Res Bool) (f : En → Out) : Nat → En → Out
  | 0, _ => .bad
  | n + 1, ρ => Out.of (c (unS tmp ρ)) fun b => match b with
    | true => (f (unS tmp ρ)).turn (whilL tmp c f n)
    | false => .nx (unS tmp ρ)
def isLst : Dat → Bool
  | .list _ => true
  | _ => false
/-- only what fl tells may be a list -/
def freshT : List Bool → List Dat → Bool
  | _, [] => true
  | [], d :: ds => !isLst d && freshT [] ds
  | b :: fl, d :: ds => (b || !isLst d) && freshT fl ds
theorem freshT_none : ∀ {fl : List Bool} {ds : List Dat}, freshT fl ds = true → ∀ (i : Nat) (e : Dat), ds[i]? = some e → fl[i]? = none → isLst e = false
  | _, [], _, i, e, h, _ => by simp at h
  | [], d :: ds, h, 0, e, h1, _ => by
    simp only [freshT, Bool.and_eq_true, Bool.not_eq_true'] at h
    simp at h1
    subst h1
    exact h.1
  | [], d :: ds, h, i + 1, e, h1, _ => by
    simp only [freshT, Bool.and_eq_true] at h
    exact freshT_none (fl := []) h.2 i e (by simpa using h1) (by simp)
  | b :: fl, d :: ds, h, 0, e, _, h2 => by simp at h2
  | b :: fl, d :: ds, h, i + 1, e, h1, h2 => by
    simp only [freshT, Bool.and_eq_true] at h
    exact freshT_none h.2 i e (by simpa using h1) (by simpa using h2)
theorem freshT_false : ∀ {fl : List Bool} {ds : List Dat}, freshT fl ds = true → ∀ (i : Nat) (e : Dat), ds[i]? = some e → fl[i]? = some false → isLst e = false
  | _, [], _, i, e, h, _ => by simp at h
  | [], d :: ds, h, i, e, _, h2 => by simp at h2
  | b :: fl, d :: ds, h, 0, e, h1, h2 => by
    simp only [freshT, Bool.and_eq_true, Bool.or_eq_true, Bool.not_eq_true'] at h
    simp at h1 h2
    subst h1 h2
    exact h.1.resolve_left (by simp)
  | b :: fl, d :: ds, h, i + 1, e, h1, h2 => by
    simp only [freshT, Bool.and_eq_true] at h
    exact freshT_false h.2 i e (by simpa using h1) (by simpa using h2)
def isAll (f : Str → Option Bool) : List Str → Option (List Bool)
  | [] => some []
  | c :: r => match f c, isAll f r with
    | some b, some bs => some (b :: bs)
    | _, _ => none
/-- try: e except c as x: y = (isinstance(x, ..), ..); y = y + (..) -/
def tryIO (m : Str → Option Bool) (f : Str → Str → Option Bool) (i j : Nat) (n1 n2 : List Str) (ρ : En) : Res Dat → Out
  | .ok _ => .nx ρ
  | .exc c x => match m c with
    | some true => match x, isAll (f c) n1, isAll (f c) n2 with
      | none, some b1, some b2 => if i < ρ.length ∧ j < ρ.length ∧ i ≠ j ∧ b1.length + b2.length ≤ 1000 then .nx ((ρ.set j (.fz (.tuple ((b1 ++ b2).map .bool)))).set i .un) else .bad
      | _, _, _ => .bad
    | some false => .exc c x
    | none => .bad
  | .bad => .bad
/-- try: return e except c: raise d(x) -/
def tryXO (m : Str → Option Bool) (d : Str) (s : Sl) : Res Dat → Out
  | .ok v => .ret v
  | .exc c x => match m c with
    | some true => match s with
      | .fz v => .exc d (some v)
      | _ => .bad
    | some false => .exc c x
    | none => .bad
  | .bad => .bad
/-- try: e except c as x: y = (x.row, isinstance(x, ..), ..); y = y + (..); .. -/
def tryRO (m : Str → Option Bool) (f : Str → Str → Option Bool) (i j : Nat) (ns : List (List Str)) (ρ : En) : Res Dat → Out
  | .ok _ => .nx ρ
  | .exc c x => match m c with
    | some true => match x, isAll (f c) ns.flatten with
      | some d, some bs => if i < ρ.length ∧ j < ρ.length ∧ i ≠ j ∧ bs.length ≤ 1000 then .nx ((ρ.set j (.fz (.tuple (d :: bs.map .bool)))).set i .un) else .bad
      | _, _ => .bad
    | some false => .exc c x
    | none => .bad
  | .bad => .bad
def keepO (i : Option Nat) (ρ : En) (d : Dat) : Out := match i with
  | some i => .nx (ρ.set i (.fz d))
  | none => .nx ρ
/-- try: e (or x = e) except c: y = h -/
def tryO (m : Str → Option Bool) (i : Option Nat) (j : Nat) (ρ : En) (h : Res Dat) : Res Dat → Out
  | .ok d => keepO i ρ d
  | .exc c x => match m c with
    | some true => Out.of h fun d => .nx (ρ.set j (.fz d))
    | some false => .exc c x
    | none => .bad
  | .bad => .bad
/-- a list at place k of a tuple -/
def leaseK (d : Dat) (k : Nat) : Bool := match d with
  | .tuple ds => match ds[k]? with
    | some (.list es) => decide (es.length < 1000000)
    | _ => false
  | _ => false
mutual
def exS (P : Pg) : S → En → Out
  | .set i e, ρ => Out.of (ev P e ρ) fun d => .nx (ρ.set i (.fz d))
  | .setO i e, ρ => Out.of (ev P e ρ) fun d => match d with
    | .list ds => .nx (ρ.set i (.ow ds))
    | _ => .bad
  | .tup is e, ρ => Out.of (ev P e ρ) fun d => Out.of (setT (.tp is) d ρ) .nx
  | .app i e, ρ => match getS ρ i with
    | .ow ds => Out.of (ev P e ρ) fun d => if ds.length < 1000000 then .nx (ρ.set i (.ow (ds ++ [d]))) else .bad
    | _ => .bad
  | .rev i, ρ => match getS ρ i with
    | .ow ds => .nx (ρ.set i (.ow ds.reverse))
    | _ => .bad
  | .ext i e, ρ => match getS ρ i with
    | .ow ds => Out.of (ev P e ρ) fun d => match d with
      | .list es => if ds.length + es.length < 1000000 then .nx (ρ.set i (.ow (ds ++ es))) else .bad
      | _ => .bad
    | _ => .bad
  | .ifs c a b, ρ => Out.of (ev P c ρ >>= fun d => truD d) fun r => match r with
    | true => exSs P a ρ
    | false => exSs P b ρ
  | .for_ tmp tg it body, ρ => Out.of (evI P it ρ) fun xs => forL tmp (fun x ρ => Out.of (setT tg x ρ) (exSs P body)) xs ρ
  | .whil fuel tmp c body, ρ => whilL tmp (fun ρ => ev P c ρ >>= fun d => truD d) (exSs P body) (fuel ρ) ρ
  | .ret e, ρ => Out.of (ev P e ρ) .ret
  | .retO e, ρ => Out.of (ev P e ρ) .ret
  | .retC e, ρ => Out.of (ev P e ρ) .ret
  | .retF fl es, ρ => Out.of (evs P es ρ) fun ds => if ds.length ≤ 1000000 ∧ freshT fl ds = true then .ret (.tuple ds) else .bad
  | .retL es i, ρ => match getS ρ i with
    | .ow xs => Out.of (evs P es ρ) fun ds => if ds.length < 1000000 ∧ freshT [] ds = true then .ret (.tuple (ds ++ [.list xs])) else .bad
    | _ => .bad
  | .retV i, ρ => match getS ρ i with
    | .ow ds => .ret (.list ds)
    | _ => .bad
  | .retN, _ => .ret .none
  | .expr e, ρ => Out.of (ev P e ρ) fun _ => .nx ρ
  | .pass, ρ => .nx ρ
  | .cont, ρ => .ct ρ
  | .rais c, _ => .exc c none
  | .nope, _ => .bad
  | .raisX c e, ρ => Out.of (ev P e ρ) fun d => .exc c (some d)
  | .tryX e c d i, ρ => tryXO (fun c' => P.X c' c) d (getS ρ i) (ev P e ρ)
  | .tryR e c i j ns, ρ => tryRO (fun c' => P.X c' c) P.I i j ns ρ (ev P e ρ)
  | .tryB e _, ρ => match ev P e ρ with
    | .ok d => .ret d
    | _ => .bad
  | .tryI e c i j n1 n2, ρ => tryIO (fun c' => P.X c' c) P.I i j n1 n2 ρ (ev P e ρ)
  | .tryE i e c j h, ρ => tryO (fun c' => P.X c' c) i j ρ (ev P h ρ) (ev P e ρ)
def exSs (P : Pg) : Ss → En → Out
  | .nil, ρ => .nx ρ
  | .cons s r, ρ => (exS P s ρ).thn (exSs P r)
  | .frz i r, ρ => match getS ρ i with
    | .ow ds => exSs P r (ρ.set i (.fz (.list ds)))
    | _ => .bad
  | .lease i e c1 r c2 k o rest, ρ => Out.of (ev P e ρ) fun d => Out.of (ev P c1 (ρ.set i (.fz d)) >>= fun t => truD t) fun b => match b with
    | true => Out.of (ev P r (ρ.set i (.fz d))) .ret
    | false => Out.of (ev P c2 (ρ.set i (.fz d)) >>= fun t => truD t) fun b => match b with
      | true => if (leaseK d k && decide (i < ρ.length)) = true then Out.of (ev P (o.getD .non) (ρ.set i (.fz d))) fun _ => exSs P rest (ρ.set i .un) else .bad
      | false => exSs P rest (ρ.set i .un)
end
/-- the slots at the entry -/
@[simp] def ins : List Bool → List Dat → En
  | true :: ws, .list xs :: ds => .ln xs :: ins ws ds
  | _ :: ws, d :: ds => .fz d :: ins ws ds
  | [], d :: ds => .fz d :: ins [] ds
  | _, [] => []
/-- a def as a whole: n slots -/
def runF (P : Pg) (n : Nat) (lent : List Bool) (fr : Bool) (body : Ss) (ds : List Dat) : Res Dat :=
  match exSs P body (ins lent ds ++ List.replicate (n - ds.length) .un) with
  | .ret d => .ok d
  | .nx _ => if fr then .bad else .ok .none
  | .exc c x => .exc c x
  | _ => .bad
end NW
end

section
set_option maxHeartbeats 4000000
/-! Each operation over data, as a rule over the heap. -/
namespace NW
open PySem PySem.Spec PyProof.Rows L2

theorem tuple_mul_same (l : Addr) (items : Array Value) (n : Nat) (sl : Array (Option Value)) (dd : Option Addr) (x : Int) (u : Tok) (c0 : (decide (x < -(2 ^ 63)) || decide (x ≥ 2 ^ 63)) = false) (c1 : (items.isEmpty || x == 1) = true) :
    Meets (Builtin.«tuple.__mul__» ⟨[.ref l, .int x u], []⟩) (fun _ R s => s.heap.get? l = some { cls := .type "tuple", dict := dd, data := .seq items n, slots := sl } ∧
      R (.ok (.ret (Value.ref l))) s) :=
  .of_wp fun prog w A R s h => by
    obtain ⟨hp, g, d, tk, os⟩ := s
    obtain ⟨hl, h⟩ := h
    have f1 := AutoSeq1.idx_int
    wp_walk using wpAny_loadPart' hl
    repeat (first
      | (refine wpAny_ite_false (decide_eq_false (by rw [c0]; exact Bool.false_ne_true)) ?_; wp_walk using wpAny_loadPart' hl)
      | (refine wpAny_ite_true (decide_eq_true c1) ?_; wp_walk using wpAny_loadPart' hl))
    exact ⟨_, rfl, h⟩
theorem tuple_mul_none (l : Addr) (items : Array Value) (n : Nat) (sl : Array (Option Value)) (dd : Option Addr) (x : Int) (u : Tok) (c0 : (decide (x < -(2 ^ 63)) || decide (x ≥ 2 ^ 63)) = false) (c1 : (items.isEmpty || x == 1) = false) (c2 : (decide (x ≤ 0) || items.isEmpty) = true) :
    Meets (Builtin.«tuple.__mul__» ⟨[.ref l, .int x u], []⟩) (fun _ R s => s.heap.get? l = some { cls := .type "tuple", dict := dd, data := .seq items n, slots := sl } ∧
      R (.ok (.ret (Value.ref s.heap.objs.size))) { s with heap := s.heap.push { cls := Value.type "tuple", data := Data.seq #[] }, toks := s.toks }) :=
  .of_wp fun prog w A R s h => by
    obtain ⟨hp, g, d, tk, os⟩ := s
    obtain ⟨hl, h⟩ := h
    have f1 := AutoSeq1.idx_int
    wp_walk using wpAny_loadPart' hl
    repeat (first
      | (refine wpAny_ite_false (decide_eq_false (by rw [c0]; exact Bool.false_ne_true)) ?_; wp_walk using wpAny_loadPart' hl)
      | (refine wpAny_ite_false (decide_eq_false (by rw [c1]; exact Bool.false_ne_true)) ?_; wp_walk using wpAny_loadPart' hl)
      | (refine wpAny_ite_true (decide_eq_true c2) ?_; wp_walk using wpAny_loadPart' hl))
    exact ⟨_, rfl, h⟩
section
variable {X : Cx}
theorem op_repT01 : OpR X (binaryOp .Mult) (fun x y H Q => ∃ l k xs, x = .ref l ∧ y = .int k ∧ SqT X.K H l xs ∧ (k = 0 ∨ k = 1) ∧ (k = 1 ∨ xs = [] → Q (.ref l) H) ∧ (k = 0 → xs ≠ [] → ∀ p, H p = none → Q (.ref p) (upd H p (.tup [])))) := by
  intro pins s σ H x y v u Q I rx ry h
  obtain ⟨l, k, xs, rfl, rfl, hT, hk, q1, q2⟩ := h
  cases rx
  obtain ⟨t, rfl⟩ := ry
  obtain ⟨its, r, ⟨⟨cls, dd, data, sl⟩, ho, hc, n, hd⟩, hs⟩ := I.tuple hT
  simp only at hc hd
  subst hc hd
  have hle : its.length = xs.length := r.length.symm
  have c0 : (decide (k < -(2 ^ 63)) || decide (k ≥ 2 ^ 63)) = false := by
    rw [decide_eq_false (by omega), decide_eq_false (by omega)] <;> rfl
  cases hc1 : (its.toArray.isEmpty || k == 1) with
  | true =>
    refine wpAny_binaryOp_repeat_ref (T := "tuple") (U := "int") (by decide) ⟨_, ho, rfl⟩ (fun s' => typeIs_int s' k t) noFill_tuple_mul F.fills_int_mul F.slot_int_rmul repeat_tuple F.slot_int_index.lookup
      (call_meets F.slot_int_rmul (typeIs_int s k t) F.entry_int_rmul (F.args_int_rmul_2 _ _) (int_rmul_tuple k t l its.toArray n dd sl)
        ⟨ho, rfl, ⟨_, ho, rfl⟩, call_meets F.slot_tuple_mul ⟨_, ho, rfl⟩ F.entry_tuple_mul (F.args_tuple_mul_2 _ _) (tuple_mul_same l its.toArray n sl dd k t c0 hc1) ⟨ho, ?_⟩⟩)
    refine ⟨.ref l, H, I, rfl, q1 ?_⟩
    rw [Bool.or_eq_true] at hc1
    rcases hc1 with hz | hz
    · right
      cases its with
      | nil => exact List.eq_nil_of_length_eq_zero hle.symm
      | cons _ _ => cases hz
    · left
      exact eq_of_beq hz
  | false =>
    rw [Bool.or_eq_false_iff] at hc1
    have hk0 : k = 0 := by
      rcases hk with hk | hk
      · exact hk
      · rw [hk] at hc1
        exact absurd hc1.2 (by decide)
    have hne : xs ≠ [] := fun e => by
      rw [e] at hle
      have : its = [] := List.eq_nil_of_length_eq_zero hle
      rw [this] at hc1
      exact absurd hc1.1 (by decide)
    have c2 : (decide (k ≤ 0) || its.toArray.isEmpty) = true := by rw [hk0]; rfl
    refine wpAny_binaryOp_repeat_ref (T := "tuple") (U := "int") (by decide) ⟨_, ho, rfl⟩ (fun s' => typeIs_int s' k t) noFill_tuple_mul F.fills_int_mul F.slot_int_rmul repeat_tuple F.slot_int_index.lookup
      (call_meets F.slot_int_rmul (typeIs_int s k t) F.entry_int_rmul (F.args_int_rmul_2 _ _) (int_rmul_tuple k t l its.toArray n dd sl)
        ⟨ho, rfl, ⟨_, ho, rfl⟩, call_meets F.slot_tuple_mul ⟨_, ho, rfl⟩ F.entry_tuple_mul (F.args_tuple_mul_2 _ _) (tuple_mul_none l its.toArray n sl dd k t c0 (by rw [Bool.or_eq_false_iff]; exact hc1) c2) ⟨ho, ?_⟩⟩)
    refine ⟨.ref s.heap.objs.size, _, I.laid (t' := s.toks) (o := .tup []) (fun b ob q => Heap.get?_push_of_some _ q) (Nat.le_refl _) ?_, rfl, q2 hk0 hne _ (I.hok.fresh (Nat.le_refl _))⟩
    exact ⟨by simp, [], .nil, IsTup.new _ _⟩
theorem op_mul_strI : OpR X (binaryOp .Mult) (fun x y H Q => ∃ a k, x = .str a ∧ y = .int k ∧ a.length ≤ 16 ∧ 0 ≤ k ∧ k ≤ 1000 ∧ Q (.str (Txt.mul a k)) H) := by
  intro pins s σ H x y v u Q I rx ry h
  obtain ⟨a, k, rfl, rfl, h1, h2, h3, q⟩ := h
  obtain ⟨t, rfl⟩ := rx
  obtain ⟨t', rfl⟩ := ry
  exact PySem.W.KXi.mul rfl h1 (by omega) (by omega) fun t2 k2 _ _ => ⟨.str (Txt.mul a k), H, I.kept (t' := k2) fun _ _ z => z, ⟨_, rfl⟩, q⟩
end
/-- a thing that may be read here: still, or a list whose items are still -/
inductive RW (K : PySem.W.Frag) (H G : Hp) : V → Dat → Prop
  | st {v : V} {d : Dat} : Rep K G v d → RW K H G v d
  | wk {a : Addr} {vs : List V} {ds : List Dat} : SqL K H a vs → Reps K G vs ds → RW K H G (.ref a) (.list ds)
section
variable {K : PySem.W.Frag} {H G H' G' : Hp}
theorem RW.here (s : Same G H) {v : V} {d : Dat} (r : RW K H G v d) : Rep K H v d := by
  cases r with
  | st r => exact r.mono s
  | wk q r => exact .lst q (r.mono s)
theorem RW.ext (x : Ext H G H' G') {v : V} {d : Dat} (r : RW K H G v d) : RW K H' G' v d := by
  cases r with
  | st r => exact .st (r.mono x.stl)
  | wk q r => exact .wk (sqL_keep x.all q) (r.mono x.stl)
theorem RW.list (s : Same G H) {v : V} {ds : List Dat} (r : RW K H G v (.list ds)) : ∃ a vs, v = .ref a ∧ SqL K H a vs ∧ Reps K G vs ds := by
  cases r with
  | st r => cases r with | lst q r => exact ⟨_, _, rfl, sqL_keep s q, r⟩
  | wk q r => exact ⟨_, _, rfl, q, r⟩
theorem RW.tup (s : Same G H) {v : V} {ds : List Dat} (r : RW K H G v (.tuple ds)) : ∃ a vs, v = .ref a ∧ SqT K G a vs ∧ Reps K G vs ds := by
  cases r with
  | st r => cases r with | tup q r => exact ⟨_, _, rfl, q, r⟩
theorem RW.int {v : V} {i : Int} (r : RW K H G v (.int i)) : v = .int i := by
  cases r with | st r => cases r; rfl
theorem RW.str {v : V} {i : Str} (r : RW K H G v (.str i)) : v = .str i := by
  cases r with | st r => cases r; rfl
theorem RW.non {v : V} (r : RW K H G v .none) : v = .non := by
  cases r with | st r => cases r; rfl
theorem RW.bool {v : V} {b : Bool} (r : RW K H G v (.bool b)) : v = .bl b := by
  cases r with | st r => cases r; rfl
end

/-- a result that stays as it is -/
def Fin (K : PySem.W.Frag) (H G : Hp) (Q : VK) (d : Dat) : Prop := ∀ v H' G', Ext H G H' G' → Rep K G' v d → Q v H'
/-- a new list -/
def New (K : PySem.W.Frag) (H G : Hp) (Q : VK) (ds : List Dat) : Prop := ∀ a vs H' G', Ext H G H' G' → H a = none → G' a = none → H' a = some (.lst vs) → Reps K G' vs ds → Q (.ref a) H'
section
variable {K : PySem.W.Frag} {H G : Hp} {Q : VK}
theorem Fin.flat (s : Same G H) {v : V} {d : Dat} (f : Fin K H G Q d) (r : Rep K G v d) : Q v H := f v H G (Ext.refl s) r
theorem Fin.here (s : Same G H) {v : V} {d : Dat} (f : Fin K H G Q d) (r : Rep K G v d) : Q v H := f v H G (Ext.refl s) r
/-- a new tuple -/
theorem Fin.tup (s : Same G H) {vs : List V} {ds : List Dat} (f : Fin K H G Q (.tuple ds)) (r : Reps K G vs ds) (p : Addr) (np : H p = none) : Q (.ref p) (upd H p (.tup vs)) :=
  f _ _ (upd G p (.tup vs)) (Ext.made s np _) (.tup (SqT.of upd_same) (r.mono (Ext.made s np _).stl))
theorem New.lst (s : Same G H) {vs : List V} {ds : List Dat} (f : New K H G Q ds) (r : Reps K G vs ds) (p : Addr) (np : H p = none) : Q (.ref p) (upd H p (.lst vs)) :=
  f p vs _ G (Ext.laid s np _) np (s.free np) upd_same r
/-- a new list may be taken as one that stays -/
theorem New.still {ds : List Dat} (f : Fin K H G Q (.list ds)) : New K H G Q ds := fun a vs H' G' x na ng ha r => by
  have y : Ext H G H' (upd G' a (.lst vs)) := by
    refine ⟨x.all, fun b o e => ?_, fun b o e => ?_, fun b q => ?_⟩
    · have z := x.stl b o e
      rw [upd_ne (ne_of_none z ng)]; exact z
    · by_cases hb : b = a
      · subst hb; rw [upd_same] at e; rw [← e]; exact ha
      · rw [upd_ne hb] at e; exact x.sub b o e
    · by_cases hb : b = a
      · subst hb; exact .inr na
      · rw [upd_ne hb] at q; exact x.new b q
  have z : Same G' (upd G' a (.lst vs)) := fun b o e => by rw [upd_ne (ne_of_none e ng)]; exact e
  exact f _ _ _ y (.lst (SqL.of upd_same) (r.mono z))
end
/-- a binary operation by data -/
def R2D (K : PySem.W.Frag) (f : Dat → Dat → Res Dat) : R2 := fun x y H Q => ∃ G d e r, Same G H ∧ RW K H G x d ∧ RW K H G y e ∧ f d e = .ok r ∧ Fin K H G Q r
def opB (o : Bop) : Operator := match o with
  | .add => .Add
  | .sub => .Sub
  | .mul => .Mult
  | .div => .FloorDiv
  | .mod => .Mod
  | .pow => .Pow
theorem le_line {n : Nat} (h : n ≤ 1000000) : n ≤ sizeLine := by rw [sizeLine_eq]; omega
theorem lt_line {n : Nat} (h : n < 1000000) : n < sizeLine := by rw [sizeLine_eq]; omega
section
variable {X : Cx}
/-- xs + ys, wherever they stand: a new list -/
def rCatS (K : PySem.W.Frag) : R2 := fun x y H Q => ∃ l b xs zs, x = .ref l ∧ y = .ref b ∧ SqL K H l xs ∧ SqL K H b zs ∧ xs.length + zs.length ≤ sizeLine ∧
  ∀ p, H p = none → Q (.ref p) (upd H p (.lst (xs ++ zs)))
theorem op_catS : OpR X (binaryOp .Add) (rCatS X.K) := by
  intro pins s σ H x y v u Q I rx ry h
  obtain ⟨l, b, xs, zs, rfl, rfl, h1, h2, hz, q⟩ := h
  cases rx
  cases ry
  obtain ⟨us, r1, p1, _⟩ := I.list h1
  obtain ⟨ws, r2, p2, _⟩ := I.list h2
  obtain ⟨⟨c1, d1, t1, sl1⟩, e1, k1, n1, m1⟩ := p1.isList
  obtain ⟨⟨c2, d2, t2, sl2⟩, e2, k2, n2, m2⟩ := p2.isList
  simp only at k1 m1 k2 m2
  subst k1 m1 k2 m2
  have z1 := r1.length
  have z2 := r2.length
  have M := PyProof.Rows.list_addW l b us.toArray ws.toArray n1 n2 d1 d2 sl1 sl2 (by
    rw [List.size_toArray, List.size_toArray]; omega)
  refine concat_meets ⟨_, e1, rfl⟩ ⟨_, e2, rfl⟩ noFill_list_add seq_list_add
    PySem.F.slot_list_add PySem.F.entry_list_add (PySem.F.args_list_add_2 _ _) M ⟨e1, e2, ?_⟩
  have ea : us.toArray ++ ws.toArray = (us ++ ws).toArray := by simp
  rw [ea]
  exact ⟨.ref _, _, I.lnew (t' := s.toks) (r1.append r2) (by rw [List.length_append]; exact hz), rfl, q _ I.fresh⟩
theorem op_bin (o : Bop) : OpR X (binaryOp (opB o)) (R2D X.K (binD o)) := by
  intro pins s σ H x y v u Q I rx ry h
  obtain ⟨G, d, e, r, sm, rd, re, hf, fin⟩ := h
  cases o
  · -- add
    cases d <;> cases e <;> simp only [binD] at hf <;> try (cases hf; done)
    · cases hf
      have := rd.int; subst this
      have := re.int; subst this
      exact op_add pins s σ H _ _ v u Q I rx ry ⟨_, _, rfl, rfl, fin.flat sm (.int _)⟩
    · split at hf
      · cases hf
        have := rd.str; subst this
        have := re.str; subst this
        rename_i hz
        exact op_add_str pins s σ H _ _ v u Q I rx ry ⟨_, _, rfl, rfl, le_line hz, fin.flat sm (.str _)⟩
      · cases hf
    · split at hf
      · cases hf
        rename_i ds es hz
        obtain ⟨a, vs, rfl, q1, r1⟩ := rd.list sm
        obtain ⟨b, ws, rfl, q2, r2⟩ := re.list sm
        refine op_catS pins s σ H _ _ v u Q I rx ry ?_
        have z : vs.length + ws.length ≤ sizeLine := by rw [r1.length, r2.length]; exact le_line hz
        exact ⟨a, b, vs, ws, rfl, rfl, q1, q2, z, fun p np => (New.still fin).lst sm (r1.append r2) p np⟩
      · cases hf
    · split at hf
      · cases hf
        rename_i ds es hz
        obtain ⟨a, vs, rfl, q1, r1⟩ := rd.tup sm
        obtain ⟨b, ws, rfl, q2, r2⟩ := re.tup sm
        refine op_catA pins s σ H _ _ v u Q I rx ry ⟨a, b, vs, ws, rfl, rfl, sqT_keep sm q1, sqT_keep sm q2, by rw [r1.length, r2.length]; exact le_line hz, fun e => ?_, fun _ e => ?_, fun _ _ p np => fin.tup sm (r1.append r2) p np⟩
        · subst e; cases r1; exact fin.here sm (.tup q2 r2)
        · subst e; cases r2; rw [List.append_nil] at fin; exact fin.here sm (.tup q1 r1)
      · cases hf
  · cases d <;> cases e <;> simp only [binD] at hf <;> try (cases hf; done)
    cases hf
    have := rd.int; subst this
    have := re.int; subst this
    exact op_sub pins s σ H _ _ v u Q I rx ry ⟨_, _, rfl, rfl, fin.flat sm (.int _)⟩
  · cases d <;> cases e <;> simp only [binD] at hf <;> try (cases hf; done)
    rotate_left
    · split at hf
      · cases hf
        rename_i a b hz
        have := rd.str; subst this
        have := re.int; subst this
        exact op_mul_strI pins s σ H _ _ v u Q I rx ry ⟨_, _, rfl, rfl, hz.1, hz.2.1, hz.2.2, fin.flat sm (.str _)⟩
      · cases hf
    · split at hf
      · cases hf
        rename_i ds b hz
        obtain ⟨a, vs, rfl, q1, r1⟩ := rd.tup sm
        have := re.int; subst this
        refine op_repT01 pins s σ H _ _ v u Q I rx ry ⟨a, b, vs, rfl, rfl, sqT_keep sm q1, hz, fun hh => ?_, fun h0 hne p np => ?_⟩
        · rcases hh with hh | hh
          · rw [if_pos hh] at fin
            exact fin.here sm (.tup q1 r1)
          · subst hh
            cases r1
            have e : (if b = 1 then ([] : List Dat) else []) = [] := by split <;> rfl
            rw [e] at fin
            exact fin.here sm (.tup q1 .nil)
        · rw [if_neg (by omega)] at fin
          exact fin.tup sm .nil p np
      · cases hf
    split at hf
    · cases hf
      have := rd.int; subst this
      have := re.int; subst this
      rename_i hz
      exact op_mul pins s σ H _ _ v u Q I rx ry ⟨_, _, rfl, rfl, hz, fin.flat sm (.int _)⟩
    · cases hf
  · cases d <;> cases e <;> simp only [binD] at hf <;> try (cases hf; done)
    split at hf
    · cases hf
      have := rd.int; subst this
      have := re.int; subst this
      rename_i hz
      exact op_fdivN pins s σ H _ _ v u Q I rx ry ⟨_, _, rfl, rfl, hz, fin.flat sm (.int _)⟩
    · cases hf
  · cases d <;> cases e <;> simp only [binD] at hf <;> try (cases hf; done)
    split at hf
    · cases hf
      have := rd.int; subst this
      have := re.int; subst this
      rename_i hz
      exact op_modN pins s σ H _ _ v u Q I rx ry ⟨_, _, rfl, rfl, hz, fin.flat sm (.int _)⟩
    · cases hf
  · cases d <;> cases e <;> simp only [binD] at hf <;> try (cases hf; done)
    split at hf
    · cases hf
      have := rd.int; subst this
      have := re.int; subst this
      rename_i hz
      exact op_pow pins s σ H _ _ v u Q I rx ry ⟨_, _, rfl, rfl, hz, fin.flat sm (.int _)⟩
    · cases hf
end
end NW
end

section
set_option maxHeartbeats 4000000
/-! Comparisons, truth, subscripts, slices, built-ins over data. -/
namespace NW
open PySem PySem.Spec PyProof.Rows L2
section
variable {X : Cx} {pins : List (Addr × Obj)} {σ : L2.St} {H G : Hp} {s : Shared}
theorem rc_eq (I : Inv X pins σ H s) (hs : Same G H) {d e : Dat} {v w : V} {u x : Value} (A : Around) (r : Rep X.K G v d) (q : Rep X.K G w e) (ru : RelV v u) (rx : RelV w x) (hd : ndc d = true) (he : ndc e = true)
    (hu : A.units + PyData.depth d < cLine) : SeqAt.RcAt A s u x (PyData.eqv d e) := by
  have hA : A.units < cLine := Nat.lt_of_le_of_lt (Nat.le_add_right _ _) hu
  have r0 := r
  have q0 := q
  cases r with
  | non =>
    cases ru
    cases q with
    | non => cases rx; exact SeqAt.RcAt.none_none
    | bl b => cases rx; exact SeqAt.RcAt.none_bool b
    | int b => obtain ⟨t, rfl⟩ := rx; exact SeqAt.RcAt.none_int b t
    | str b => obtain ⟨t, rfl⟩ := rx; exact SeqAt.RcAt.none_str b t
    | lst q1 q2 => obtain ⟨_, _, _, e1, rfl, _, _, _, p⟩ := rep_list I hs q0 rx; exact SeqAt.RcAt.none_list p hA
    | tup q1 q2 => obtain ⟨_, _, _, e1, rfl, _, _, _, p⟩ := rep_tuple I hs q0 rx; exact SeqAt.RcAt.none_tuple p hA
    | dct _ _ => simp [ndc] at he
  | bl a =>
    cases ru
    cases q with
    | non => cases rx; exact SeqAt.RcAt.bool_none a
    | bl b => cases rx; exact SeqAt.RcAt.bool_bool a b
    | int b => obtain ⟨t, rfl⟩ := rx; exact SeqAt.RcAt.bool_int a b t
    | str b => obtain ⟨t, rfl⟩ := rx; exact SeqAt.RcAt.bool_str a b t
    | lst q1 q2 => obtain ⟨_, _, _, e1, rfl, _, _, _, p⟩ := rep_list I hs q0 rx; exact SeqAt.RcAt.bool_list a p hA
    | tup q1 q2 => obtain ⟨_, _, _, e1, rfl, _, _, _, p⟩ := rep_tuple I hs q0 rx; exact SeqAt.RcAt.bool_tuple a p hA
    | dct _ _ => simp [ndc] at he
  | int a =>
    obtain ⟨t', rfl⟩ := ru
    cases q with
    | non => cases rx; exact SeqAt.RcAt.int_none a t'
    | bl b => cases rx; exact SeqAt.RcAt.int_bool a t' b
    | int b => obtain ⟨t, rfl⟩ := rx; exact SeqAt.RcAt.int_int a t' b t
    | str b => obtain ⟨t, rfl⟩ := rx; exact SeqAt.RcAt.int_str a t' b t
    | lst q1 q2 => obtain ⟨_, _, _, e1, rfl, _, _, _, p⟩ := rep_list I hs q0 rx; exact SeqAt.RcAt.int_list a t' p hA
    | tup q1 q2 => obtain ⟨_, _, _, e1, rfl, _, _, _, p⟩ := rep_tuple I hs q0 rx; exact SeqAt.RcAt.int_tuple a t' p hA
    | dct _ _ => simp [ndc] at he
  | str a =>
    obtain ⟨t', rfl⟩ := ru
    cases q with
    | non => cases rx; exact SeqAt.RcAt.str_none a t'
    | bl b => cases rx; exact SeqAt.RcAt.str_bool a t' b
    | int b => obtain ⟨t, rfl⟩ := rx; exact SeqAt.RcAt.str_int a t' b t
    | str b => obtain ⟨t, rfl⟩ := rx; exact SeqAt.RcAt.str_str a t' b t
    | lst q1 q2 => obtain ⟨_, _, _, e1, rfl, _, _, _, p⟩ := rep_list I hs q0 rx; exact SeqAt.RcAt.str_list a t' p hA
    | tup q1 q2 => obtain ⟨_, _, _, e1, rfl, _, _, _, p⟩ := rep_tuple I hs q0 rx; exact SeqAt.RcAt.str_tuple a t' p hA
    | dct _ _ => simp [ndc] at he
  | @lst a0 vs0 ds q1 q2 =>
    obtain ⟨a, vs, us, e1, rfl, hS, rr, rv, p⟩ := rep_list I hs r0 ru
    cases q with
    | non => cases rx; exact SeqAt.RcAt.list_none p hA
    | bl b => cases rx; exact SeqAt.RcAt.list_bool b p hA
    | int b => obtain ⟨t, rfl⟩ := rx; exact SeqAt.RcAt.list_int b t p hA
    | str b => obtain ⟨t, rfl⟩ := rx; exact SeqAt.RcAt.list_str b t p hA
    | @lst a2 vs2 ds2 q1 q2 =>
      obtain ⟨b, ws, xs, e2, rfl, hS2, rr2, rv2, p2⟩ := rep_list I hs q0 rx
      have n1 : us.toArray.size = ds.length := by rw [List.size_toArray, ← rr.length, rv.length]
      have n2 : xs.toArray.size = ds2.length := by rw [List.size_toArray, ← rr2.length, rv2.length]
      have he2 : ∀ j (h1 : j < us.toArray.size) (h2 : j < xs.toArray.size), SeqAt.EqAt A.in1 s us.toArray[j] xs.toArray[j] (alike ds ds2 j) := fun j h1 h2 =>
        eqsAt_rep I hs ds ds2 vs ws us xs A.in1 rr rr2 rv rv2 (by simpa [ndc] using hd) (by simpa [ndc] using he) (by rw [in1_units]; simp only [PyData.depth] at hu; omega) j (by simpa using h1) (by simpa using h2)
      show SeqAt.RcAt A s (.ref a) (.ref b) (PyData.eqvAll ds ds2)
      by_cases hz : ds.length = ds2.length
      · rw [← alike_all ds ds2 hz, ← n1]
        exact SeqAt.RcAt.lists p p2 (by rw [n1, n2, hz]) hA he2
      · rw [eqvAll_len ds ds2 hz]
        exact SeqAt.RcAt.lists_lengths p p2 (by rw [n1, n2]; simpa using hz) hA
    | tup q1 q2 => obtain ⟨_, _, _, e2, rfl, _, _, _, p2⟩ := rep_tuple I hs q0 rx; exact SeqAt.RcAt.list_tuple p p2 hA
    | dct _ _ => simp [ndc] at he
  | @tup a0 vs0 ds q1 q2 =>
    obtain ⟨a, vs, us, e1, rfl, hS, rr, rv, p⟩ := rep_tuple I hs r0 ru
    cases q with
    | non => cases rx; exact SeqAt.RcAt.tuple_none p hA
    | bl b => cases rx; exact SeqAt.RcAt.tuple_bool b p hA
    | int b => obtain ⟨t, rfl⟩ := rx; exact SeqAt.RcAt.tuple_int b t p hA
    | str b => obtain ⟨t, rfl⟩ := rx; exact SeqAt.RcAt.tuple_str b t p hA
    | lst q1 q2 => obtain ⟨_, _, _, e2, rfl, _, _, _, p2⟩ := rep_list I hs q0 rx; exact SeqAt.RcAt.tuple_list p p2 hA
    | @tup a2 vs2 ds2 q1 q2 =>
      obtain ⟨b, ws, xs, e2, rfl, hS2, rr2, rv2, p2⟩ := rep_tuple I hs q0 rx
      have n1 : us.toArray.size = ds.length := by rw [List.size_toArray, ← rr.length, rv.length]
      have n2 : xs.toArray.size = ds2.length := by rw [List.size_toArray, ← rr2.length, rv2.length]
      have he2 : ∀ j (h1 : j < us.toArray.size) (h2 : j < xs.toArray.size), SeqAt.EqAt A.in1 s us.toArray[j] xs.toArray[j] (alike ds ds2 j) := fun j h1 h2 =>
        eqsAt_rep I hs ds ds2 vs ws us xs A.in1 rr rr2 rv rv2 (by simpa [ndc] using hd) (by simpa [ndc] using he) (by rw [in1_units]; simp only [PyData.depth] at hu; omega) j (by simpa using h1) (by simpa using h2)
      show SeqAt.RcAt A s (.ref a) (.ref b) (PyData.eqvAll ds ds2)
      rw [← alike_tup ds ds2, ← n1, ← n2]
      exact SeqAt.RcAt.tuples p p2 hA he2
    | dct _ _ => simp [ndc] at he
  | dct _ _ => simp [ndc] at hd
theorem rc_ne (I : Inv X pins σ H s) (hs : Same G H) {d e : Dat} {v w : V} {u x : Value} (A : Around) (r : Rep X.K G v d) (q : Rep X.K G w e) (ru : RelV v u) (rx : RelV w x) (hd : ndc d = true) (he : ndc e = true)
    (hu : A.units + PyData.depth d < cLine) : SeqAt.RcNeAt A s u x (!PyData.eqv d e) := by
  have hA : A.units < cLine := Nat.lt_of_le_of_lt (Nat.le_add_right _ _) hu
  have r0 := r
  have q0 := q
  cases r with
  | non =>
    cases ru
    cases q with
    | non => cases rx; exact SeqAt.RcNeAt.none_none
    | bl b => cases rx; exact SeqAt.RcNeAt.none_bool b
    | int b => obtain ⟨t, rfl⟩ := rx; exact SeqAt.RcNeAt.none_int b t
    | str b => obtain ⟨t, rfl⟩ := rx; exact SeqAt.RcNeAt.none_str b t
    | lst q1 q2 => obtain ⟨_, _, _, e1, rfl, _, _, _, p⟩ := rep_list I hs q0 rx; exact SeqAt.RcNeAt.none_list p hA
    | tup q1 q2 => obtain ⟨_, _, _, e1, rfl, _, _, _, p⟩ := rep_tuple I hs q0 rx; exact SeqAt.RcNeAt.none_tuple p hA
    | dct _ _ => simp [ndc] at he
  | bl a =>
    cases ru
    cases q with
    | non => cases rx; exact SeqAt.RcNeAt.bool_none a
    | bl b => cases rx; exact SeqAt.RcNeAt.bool_bool a b
    | int b => obtain ⟨t, rfl⟩ := rx; exact SeqAt.RcNeAt.bool_int a b t
    | str b => obtain ⟨t, rfl⟩ := rx; exact SeqAt.RcNeAt.bool_str a b t
    | lst q1 q2 => obtain ⟨_, _, _, e1, rfl, _, _, _, p⟩ := rep_list I hs q0 rx; exact SeqAt.RcNeAt.bool_list a p hA
    | tup q1 q2 => obtain ⟨_, _, _, e1, rfl, _, _, _, p⟩ := rep_tuple I hs q0 rx; exact SeqAt.RcNeAt.bool_tuple a p hA
    | dct _ _ => simp [ndc] at he
  | int a =>
    obtain ⟨t', rfl⟩ := ru
    cases q with
    | non => cases rx; exact SeqAt.RcNeAt.int_none a t'
    | bl b => cases rx; exact SeqAt.RcNeAt.int_bool a t' b
    | int b => obtain ⟨t, rfl⟩ := rx; exact SeqAt.RcNeAt.int_int a t' b t
    | str b => obtain ⟨t, rfl⟩ := rx; exact SeqAt.RcNeAt.int_str a t' b t
    | lst q1 q2 => obtain ⟨_, _, _, e1, rfl, _, _, _, p⟩ := rep_list I hs q0 rx; exact SeqAt.RcNeAt.int_list a t' p hA
    | tup q1 q2 => obtain ⟨_, _, _, e1, rfl, _, _, _, p⟩ := rep_tuple I hs q0 rx; exact SeqAt.RcNeAt.int_tuple a t' p hA
    | dct _ _ => simp [ndc] at he
  | str a =>
    obtain ⟨t', rfl⟩ := ru
    cases q with
    | non => cases rx; exact SeqAt.RcNeAt.str_none a t'
    | bl b => cases rx; exact SeqAt.RcNeAt.str_bool a t' b
    | int b => obtain ⟨t, rfl⟩ := rx; exact SeqAt.RcNeAt.str_int a t' b t
    | str b => obtain ⟨t, rfl⟩ := rx; exact SeqAt.RcNeAt.str_str a t' b t
    | lst q1 q2 => obtain ⟨_, _, _, e1, rfl, _, _, _, p⟩ := rep_list I hs q0 rx; exact SeqAt.RcNeAt.str_list a t' p hA
    | tup q1 q2 => obtain ⟨_, _, _, e1, rfl, _, _, _, p⟩ := rep_tuple I hs q0 rx; exact SeqAt.RcNeAt.str_tuple a t' p hA
    | dct _ _ => simp [ndc] at he
  | @lst a0 vs0 ds q1 q2 =>
    obtain ⟨a, vs, us, e1, rfl, hS, rr, rv, p⟩ := rep_list I hs r0 ru
    cases q with
    | non => cases rx; exact SeqAt.RcNeAt.list_none p hA
    | bl b => cases rx; exact SeqAt.RcNeAt.list_bool b p hA
    | int b => obtain ⟨t, rfl⟩ := rx; exact SeqAt.RcNeAt.list_int b t p hA
    | str b => obtain ⟨t, rfl⟩ := rx; exact SeqAt.RcNeAt.list_str b t p hA
    | @lst a2 vs2 ds2 q1 q2 =>
      obtain ⟨b, ws, xs, e2, rfl, hS2, rr2, rv2, p2⟩ := rep_list I hs q0 rx
      have n1 : us.toArray.size = ds.length := by rw [List.size_toArray, ← rr.length, rv.length]
      have n2 : xs.toArray.size = ds2.length := by rw [List.size_toArray, ← rr2.length, rv2.length]
      have he2 : ∀ j (h1 : j < us.toArray.size) (h2 : j < xs.toArray.size), SeqAt.EqAt A.in1 s us.toArray[j] xs.toArray[j] (alike ds ds2 j) := fun j h1 h2 =>
        eqsAt_rep I hs ds ds2 vs ws us xs A.in1 rr rr2 rv rv2 (by simpa [ndc] using hd) (by simpa [ndc] using he) (by rw [in1_units]; simp only [PyData.depth] at hu; omega) j (by simpa using h1) (by simpa using h2)
      show SeqAt.RcNeAt A s (.ref a) (.ref b) (!PyData.eqvAll ds ds2)
      by_cases hz : ds.length = ds2.length
      · rw [← alike_all ds ds2 hz, ← n1]
        exact SeqAt.RcNeAt.lists p p2 (by rw [n1, n2, hz]) hA he2
      · rw [eqvAll_len ds ds2 hz]
        exact SeqAt.RcNeAt.lists_lengths p p2 (by rw [n1, n2]; simpa using hz) hA
    | tup q1 q2 => obtain ⟨_, _, _, e2, rfl, _, _, _, p2⟩ := rep_tuple I hs q0 rx; exact SeqAt.RcNeAt.list_tuple p p2 hA
    | dct _ _ => simp [ndc] at he
  | @tup a0 vs0 ds q1 q2 =>
    obtain ⟨a, vs, us, e1, rfl, hS, rr, rv, p⟩ := rep_tuple I hs r0 ru
    cases q with
    | non => cases rx; exact SeqAt.RcNeAt.tuple_none p hA
    | bl b => cases rx; exact SeqAt.RcNeAt.tuple_bool b p hA
    | int b => obtain ⟨t, rfl⟩ := rx; exact SeqAt.RcNeAt.tuple_int b t p hA
    | str b => obtain ⟨t, rfl⟩ := rx; exact SeqAt.RcNeAt.tuple_str b t p hA
    | lst q1 q2 => obtain ⟨_, _, _, e2, rfl, _, _, _, p2⟩ := rep_list I hs q0 rx; exact SeqAt.RcNeAt.tuple_list p p2 hA
    | @tup a2 vs2 ds2 q1 q2 =>
      obtain ⟨b, ws, xs, e2, rfl, hS2, rr2, rv2, p2⟩ := rep_tuple I hs q0 rx
      have n1 : us.toArray.size = ds.length := by rw [List.size_toArray, ← rr.length, rv.length]
      have n2 : xs.toArray.size = ds2.length := by rw [List.size_toArray, ← rr2.length, rv2.length]
      have he2 : ∀ j (h1 : j < us.toArray.size) (h2 : j < xs.toArray.size), SeqAt.EqAt A.in1 s us.toArray[j] xs.toArray[j] (alike ds ds2 j) := fun j h1 h2 =>
        eqsAt_rep I hs ds ds2 vs ws us xs A.in1 rr rr2 rv rv2 (by simpa [ndc] using hd) (by simpa [ndc] using he) (by rw [in1_units]; simp only [PyData.depth] at hu; omega) j (by simpa using h1) (by simpa using h2)
      show SeqAt.RcNeAt A s (.ref a) (.ref b) (!PyData.eqvAll ds ds2)
      rw [← alike_tup ds ds2, ← n1, ← n2]
      exact SeqAt.RcNeAt.tuples p p2 hA he2
    | dct _ _ => simp [ndc] at he
  | dct _ _ => simp [ndc] at hd
end

/-- a comparison by data -/
def R2C (K : PySem.W.Frag) (f : Dat → Dat → Res Bool) : R2 := fun x y H Q => ∃ G d e r, Same G H ∧ RW K H G x d ∧ RW K H G y e ∧ f d e = .ok r ∧ Q (.bl r) H
def opC (o : Cop) : CmpOp := match o with
  | .eq => .Eq
  | .ne => .NotEq
  | .lt => .Lt
  | .le => .LtE
  | .gt => .Gt
  | .ge => .GtE
  | .isin => .In
  | .nin => .NotIn
  | .isN => .Is
  | .ntN => .IsNot
theorem shOk_ndc {d : Dat} (h : shOk d = true) : ndc d = true := (Bool.and_eq_true_iff.mp h).1
theorem shOk_depth {d : Dat} (h : shOk d = true) : PyData.depth d ≤ 100 := of_decide_eq_true (Bool.and_eq_true_iff.mp h).2
theorem in_any {X : Cx} {G : Hp} {x : Dat} : ∀ {ds : List Dat} {vs : List V} {us : List Value} {e : Value → Bool}, Reps X.K G vs ds → Vals vs us → (∀ (i : Nat) (d : Dat) (u : Value), ds[i]? = some d → us[i]? = some u → e u = PyData.eqv d x) → us.any e = inD x ds
  | [], _, _, _, r, q, _ => by cases r; cases q; rfl
  | d :: ds, _, _, e, r, q, h => by
    cases r with
    | cons r t =>
      cases q with
      | cons q t' =>
        show (_ || _) = (_ || _)
        rw [h 0 d _ rfl rfl, in_any t t' fun i d u h1 h2 => h (i + 1) d u h1 h2]
section
variable {X : Cx}
/-- what a value is, read off the heap: for the items of a list that is searched -/
theorem in_items {pins : List (Addr × Obj)} {σ : L2.St} {H G : Hp} {s : Shared} (I : Inv X pins σ H s) (hs : Same G H) {x : Dat} {w : V} {u : Value} {A : Around} (q : Rep X.K G w x) (ru : RelV w u) (hx : ndc x = true) :
    ∀ {ds : List Dat} {vs : List V} {us : List Value}, Reps X.K G vs ds → Vals vs us → ndcs ds = true → A.units + PyData.depthAll ds < cLine →
      ∃ e : Value → Bool, (∀ y, y ∈ us → SeqAt.EqAt A s y u (e y)) ∧ us.any e = inD x ds := by
  intro ds vs us r rv hd hu
  have key : ∀ (ds : List Dat) (vs : List V) (us : List Value), Reps X.K G vs ds → Vals vs us → ndcs ds = true → A.units + PyData.depthAll ds < cLine → ∀ y ∈ us, ∃ d ∈ ds, SeqAt.EqAt A s y u (PyData.eqv d x) ∧ ∃ v, Rep X.K G v d ∧ RelV v y ∧ ndc d = true := by
    intro ds
    induction ds with
    | nil => intro vs us r rv _ _ y hy; cases r; cases rv; cases hy
    | cons d ds ih =>
      intro vs us r rv hd hu y hy
      cases r with
      | cons r t =>
        cases rv with
        | cons r1 t1 =>
          simp only [ndcs, Bool.and_eq_true] at hd
          simp only [PyData.depthAll] at hu
          rcases List.mem_cons.mp hy with rfl | hy
          · exact ⟨d, List.mem_cons_self, eqAt_rep I hs d x _ _ _ _ A r q r1 ru hd.1 hx (by omega), _, r, r1, hd.1⟩
          · obtain ⟨d', h1, h2⟩ := ih _ _ t t1 hd.2 (by omega) y hy
            exact ⟨d', List.mem_cons_of_mem _ h1, h2⟩
  classical
  refine ⟨fun y => if h : y ∈ us then PyData.eqv (Classical.choose (key ds vs us r rv hd hu y h)) x else false, fun y hy => ?_, ?_⟩
  · simp only [hy, dite_true]
    exact (Classical.choose_spec (key ds vs us r rv hd hu y hy)).2.1
  · refine in_any r rv fun i d y h1 h2 => ?_
    have hy : y ∈ us := List.mem_of_getElem? h2
    simp only [hy, dite_true]
    obtain ⟨c1, _, v, c2, c3, c4⟩ := Classical.choose_spec (key ds vs us r rv hd hu y hy)
    obtain ⟨v', g1, g2⟩ := r.get h1
    obtain ⟨u', g3, g4⟩ := rv.get g1
    rw [h2] at g3; cases g3
    have ev := c3.inj g4
    subst ev
    have hd' : ndc d = true := by
      have z : ∀ (ds : List Dat) (i : Nat), ndcs ds = true → ds[i]? = some d → ndc d = true := by
        intro ds
        induction ds with
        | nil => intro i _ e; simp at e
        | cons a ds ih =>
          intro i hn e
          simp only [ndcs, Bool.and_eq_true] at hn
          cases i with
          | zero => simp at e; subst e; exact hn.1
          | succ i => exact ih i hn.2 (by simpa using e)
      exact z ds i hd h1
    rw [Rep.inj I hs _ _ v c2 g2 c4 hd']
theorem op_cmp {k : Nat} (hr : Room k X.A) (o : Cop) : OpR X (compareOp (opC o)) (R2C X.K (cmpD o)) := by
  intro pins s σ H x y v u Q I rx ry h
  obtain ⟨G, d, e, r, sm, rd, re, hf, q⟩ := h
  have hu100 : ∀ {d : Dat}, shOk d = true → X.A.units + PyData.depth d < cLine := fun h => by
    have := shOk_depth h
    have := hr.un
    omega
  have here : ∀ {b : Bool}, r = b → EP X pins σ Q (.bool b) s := fun e => fin_bl I q e
  cases o with
  | eq =>
    simp only [cmpD] at hf
    split at hf
    · rename_i hh
      cases hf
      have h2 := Bool.and_eq_true_iff.mp hh
      exact rc_eq I (Same.refl H) X.A (rd.here sm) (re.here sm) rx ry (shOk_ndc h2.1) (shOk_ndc h2.2) (hu100 h2.1) X.prog X.w _ _ (here rfl)
    · cases hf
  | ne =>
    simp only [cmpD] at hf
    split at hf
    · rename_i hh
      cases hf
      have h2 := Bool.and_eq_true_iff.mp hh
      exact rc_ne I (Same.refl H) X.A (rd.here sm) (re.here sm) rx ry (shOk_ndc h2.1) (shOk_ndc h2.2) (hu100 h2.1) X.prog X.w _ _ (here rfl)
    · cases hf
  | lt =>
    cases d <;> cases e <;> simp only [cmpD] at hf <;> try (cases hf; done)
    · cases hf
      have := rd.int; subst this
      have := re.int; subst this
      exact op_lt pins s σ H _ _ v u Q I rx ry ⟨_, _, rfl, rfl, q⟩
    · cases hf
      have := rd.str; subst this
      have := re.str; subst this
      exact op_lt_str pins s σ H _ _ v u Q I rx ry ⟨_, _, rfl, rfl, q⟩
  | le =>
    cases d <;> cases e <;> simp only [cmpD] at hf <;> try (cases hf; done)
    · cases hf
      have := rd.int; subst this
      have := re.int; subst this
      exact op_le pins s σ H _ _ v u Q I rx ry ⟨_, _, rfl, rfl, q⟩
    · cases hf
      have := rd.str; subst this
      have := re.str; subst this
      exact op_le_str pins s σ H _ _ v u Q I rx ry ⟨_, _, rfl, rfl, q⟩
  | gt =>
    cases d <;> cases e <;> simp only [cmpD] at hf <;> try (cases hf; done)
    · cases hf
      have := rd.int; subst this
      have := re.int; subst this
      exact op_gt pins s σ H _ _ v u Q I rx ry ⟨_, _, rfl, rfl, q⟩
    · cases hf
      have := rd.str; subst this
      have := re.str; subst this
      exact op_gt_str pins s σ H _ _ v u Q I rx ry ⟨_, _, rfl, rfl, q⟩
  | ge =>
    cases d <;> cases e <;> simp only [cmpD] at hf <;> try (cases hf; done)
    · cases hf
      have := rd.int; subst this
      have := re.int; subst this
      exact op_ge pins s σ H _ _ v u Q I rx ry ⟨_, _, rfl, rfl, q⟩
    · cases hf
      have := rd.str; subst this
      have := re.str; subst this
      exact op_ge_str pins s σ H _ _ v u Q I rx ry ⟨_, _, rfl, rfl, q⟩
  | isin =>
    obtain ⟨r0, hb, hrr⟩ : ∃ r0, inB d e = .ok r0 ∧ r = r0 := by
      simp only [cmpD] at hf
      cases hb : inB d e with
      | ok r0 => rw [hb] at hf; first | (cases hf; exact ⟨_, rfl, rfl⟩)
      | exc c x => rw [hb] at hf; cases hf
      | bad => rw [hb] at hf; cases hf
    clear hf
    cases e with
    | none => simp only [inB] at hb; cases hb
    | bool _ => simp only [inB] at hb; cases hb
    | int _ => simp only [inB] at hb; cases hb
    | dict _ => simp only [inB] at hb; cases hb
    | str b =>
      cases d <;> simp only [inB] at hb <;> try (cases hb; done)
      cases hb
      have := rd.str; subst this
      have := re.str; subst this
      rename_i a
      unfold strIn at hrr
      split at hrr
      · rename_i c hc
        refine op_in_sign pins s σ H _ _ v u Q I rx ry ⟨c, b, ?_, rfl, by rw [← hrr]; exact q⟩
        have z : a = ⟨#[c]⟩ := PySem.Str.ext' (by rw [← Array.toList_inj, hc])
        rw [z]
      · exact op_in_str pins s σ H _ _ v u Q I rx ry ⟨_, _, rfl, rfl, by rw [← hrr]; exact q⟩
    | list ds =>
      simp only [inB] at hb
      split at hb <;> cases hb
      rename_i hh
      have h2 := Bool.and_eq_true_iff.mp hh
      obtain ⟨a, vs, us, rfl, rfl, hS, rr, rv, p⟩ := rep_list I (Same.refl H) (re.here sm) ry
      have hz : X.A.in1.units + PyData.depthAll ds < cLine := by
        have := hr.un
        rw [in1_units]
        have h3 := shOk_depth h2.2
        simp only [PyData.depth] at h3
        omega
      obtain ⟨f, f1, f2⟩ := in_items (A := X.A.in1) I (Same.refl H) (rd.here sm) rx (shOk_ndc h2.1) rr rv (by have z := shOk_ndc h2.2; simpa [ndc] using z) hz
      refine SeqAt.in_listAt f p (fun y hy => f1 y (by simpa using hy)) (here ?_)
      rw [hrr, ← f2]; simp
    | tuple ds =>
      simp only [inB] at hb
      split at hb <;> cases hb
      rename_i hh
      have h2 := Bool.and_eq_true_iff.mp hh
      obtain ⟨a, vs, us, rfl, rfl, hS, rr, rv, p⟩ := rep_tuple I (Same.refl H) (re.here sm) ry
      have hz : X.A.in1.units + PyData.depthAll ds < cLine := by
        have := hr.un
        rw [in1_units]
        have h3 := shOk_depth h2.2
        simp only [PyData.depth] at h3
        omega
      obtain ⟨f, f1, f2⟩ := in_items (A := X.A.in1) I (Same.refl H) (rd.here sm) rx (shOk_ndc h2.1) rr rv (by have z := shOk_ndc h2.2; simpa [ndc] using z) hz
      refine SeqAt.in_tupleAt f p (fun y hy => f1 y (by simpa using hy)) (here ?_)
      rw [hrr, ← f2]; simp
  | nin =>
    obtain ⟨r0, hb, hrr⟩ : ∃ r0, inB d e = .ok r0 ∧ r = !r0 := by
      simp only [cmpD] at hf
      cases hb : inB d e with
      | ok r0 => rw [hb] at hf; first | (cases hf; exact ⟨_, rfl, rfl⟩)
      | exc c x => rw [hb] at hf; cases hf
      | bad => rw [hb] at hf; cases hf
    clear hf
    cases e with
    | none => simp only [inB] at hb; cases hb
    | bool _ => simp only [inB] at hb; cases hb
    | int _ => simp only [inB] at hb; cases hb
    | dict _ => simp only [inB] at hb; cases hb
    | str b =>
      cases d <;> simp only [inB] at hb <;> try (cases hb; done)
      cases hb
      have := rd.str; subst this
      have := re.str; subst this
      rename_i a
      unfold strIn at hrr
      split at hrr
      · rename_i c hc
        refine op_notIn_sign pins s σ H _ _ v u Q I rx ry ⟨c, b, ?_, rfl, by rw [← hrr]; exact q⟩
        have z : a = ⟨#[c]⟩ := PySem.Str.ext' (by rw [← Array.toList_inj, hc])
        rw [z]
      · exact op_notIn_str pins s σ H _ _ v u Q I rx ry ⟨_, _, rfl, rfl, by rw [← hrr]; exact q⟩
    | list ds =>
      simp only [inB] at hb
      split at hb <;> cases hb
      rename_i hh
      have h2 := Bool.and_eq_true_iff.mp hh
      obtain ⟨a, vs, us, rfl, rfl, hS, rr, rv, p⟩ := rep_list I (Same.refl H) (re.here sm) ry
      have hz : X.A.in1.units + PyData.depthAll ds < cLine := by
        have := hr.un
        rw [in1_units]
        have h3 := shOk_depth h2.2
        simp only [PyData.depth] at h3
        omega
      obtain ⟨f, f1, f2⟩ := in_items (A := X.A.in1) I (Same.refl H) (rd.here sm) rx (shOk_ndc h2.1) rr rv (by have z := shOk_ndc h2.2; simpa [ndc] using z) hz
      refine SeqAt.notIn_listAt f p (fun y hy => f1 y (by simpa using hy)) (here ?_)
      rw [hrr, ← f2]; simp
    | tuple ds =>
      simp only [inB] at hb
      split at hb <;> cases hb
      rename_i hh
      have h2 := Bool.and_eq_true_iff.mp hh
      obtain ⟨a, vs, us, rfl, rfl, hS, rr, rv, p⟩ := rep_tuple I (Same.refl H) (re.here sm) ry
      have hz : X.A.in1.units + PyData.depthAll ds < cLine := by
        have := hr.un
        rw [in1_units]
        have h3 := shOk_depth h2.2
        simp only [PyData.depth] at h3
        omega
      obtain ⟨f, f1, f2⟩ := in_items (A := X.A.in1) I (Same.refl H) (rd.here sm) rx (shOk_ndc h2.1) rr rv (by have z := shOk_ndc h2.2; simpa [ndc] using z) hz
      refine SeqAt.notIn_tupleAt f p (fun y hy => f1 y (by simpa using hy)) (here ?_)
      rw [hrr, ← f2]; simp
  | isN =>
    have hv : ∀ {d : Dat}, RW X.K H G x d → d ≠ .none → decide (x = V.non) = false := fun {d} r n => by
      have r' := r.here sm
      cases r' <;> first | exact absurd rfl n | rfl | (simp)
    cases e <;> (try (cases d <;> simp only [cmpD] at hf <;> cases hf; done))
    have := re.non; subst this
    by_cases hd : d = .none
    · subst hd
      have := rd.non; subst this
      simp only [cmpD] at hf
      cases hf
      exact op_isN pins s σ H _ _ v u Q I rx ry ⟨rfl, q⟩
    · have z := hv rd hd
      have e : r = false := by cases d <;> simp only [cmpD] at hf <;> first | exact absurd rfl hd | (cases hf; rfl)
      subst e
      exact op_isN pins s σ H _ _ v u Q I rx ry ⟨rfl, by rw [z]; exact q⟩
  | ntN =>
    have hv : ∀ {d : Dat}, RW X.K H G x d → d ≠ .none → decide (x = V.non) = false := fun {d} r n => by
      have r' := r.here sm
      cases r' <;> first | exact absurd rfl n | rfl | (simp)
    cases e <;> (try (cases d <;> simp only [cmpD] at hf <;> cases hf; done))
    have := re.non; subst this
    by_cases hd : d = .none
    · subst hd
      have := rd.non; subst this
      simp only [cmpD] at hf
      cases hf
      exact op_notN pins s σ H _ _ v u Q I rx ry ⟨rfl, q⟩
    · have z := hv rd hd
      have e : r = true := by cases d <;> simp only [cmpD] at hf <;> first | exact absurd rfl hd | (cases hf; rfl)
      subst e
      exact op_notN pins s σ H _ _ v u Q I rx ry ⟨rfl, by rw [z]; exact q⟩
end
end NW
end

section
set_option maxHeartbeats 4000000
/-! sorted of names: tuples of texts, the empty one among them. -/
namespace NW
open PySem PySem.Spec PyProof.Rows L2
abbrev encNm (a : List Str) : Dat := .tuple (a.map .str)
theorem alike_strs : ∀ a b : List Str, PySem.W.alikeAll (a.map PyData.str) (b.map PyData.str) = true
  | [], b => by cases b <;> simp [PySem.W.alikeAll]
  | a :: r, [] => by simp [PySem.W.alikeAll]
  | a :: r, b :: q => by
    simp only [List.map_cons, PySem.W.alikeAll, alike_strs r q, Bool.and_true]
    rfl
theorem alike_nm (a b : List Str) : PySem.W.alike (encNm a) (encNm b) = true := alike_strs a b
theorem lt_strs : ∀ a b : List Str, PyProof.Rows.lexLt PyProof.Rows.itemOrd (PySem.W.keyToksAll (a.map PyData.str)) (PySem.W.keyToksAll (b.map PyData.str)) = ltN a b
  | [], [] => PyProof.Rows.lex_irrefl _
  | [], b :: q => by
    rw [List.map_cons, PySem.W.toks_all_cons]
    exact PyProof.Rows.lex_diff (O := PyProof.Rows.itemOrd) (by simp)
  | a :: r, [] => by
    rw [List.map_cons, PySem.W.toks_all_cons]
    exact PyProof.Rows.lex_diff (O := PyProof.Rows.itemOrd) (by simp)
  | a :: r, b :: q => by
    rw [List.map_cons, List.map_cons, PySem.W.dataLt_cons rfl, lt_strs r q, PySem.W.dataLt_str]
    simp only [ltN]
    have e : PyData.eqv (.str a) (.str b) = decide (a = b) := by simp [PyData.eqv]; rfl
    rw [e]
    by_cases h : a = b
    · rw [if_pos h, if_pos (decide_eq_true h)]
    · rw [if_neg h, if_neg (by simpa using h)]
theorem lt_nm (a b : List Str) : PySem.W.dataLt (encNm a) (encNm b) = ltN a b := by
  rw [PySem.W.dataLt_tuple]
  exact lt_strs a b
theorem le_nm : PySem.W.dataLe false encNm = leN := by
  funext a b
  rw [PySem.W.dataLe_eq]
  show (!PySem.W.dataLt (encNm b) (encNm a)) = leN a b
  rw [lt_nm]
  rfl
theorem depth_nm (a : List Str) : (encNm a).depth ≤ 2 := by
  have : ∀ a : List Str, PyData.depthAll (a.map PyData.str) ≤ 1 := by
    intro a
    induction a with
    | nil => simp [PyData.depthAll]
    | cons x r ih =>
      simp only [List.map_cons, PyData.depthAll, PyData.depth]
      omega
  have := this a
  simp only [encNm, PyData.depth]
  omega
section
variable {prog : Program} {w : World} {A : Around} {E : Value → Shared → Prop} {s : Shared}
abbrev RdN (s : Shared) : Value → List Str → Prop := fun v a => ∃ as, Reads s.heap v (encNm a) as
theorem nm_firsts {M : Model} : ∀ {vs : List Value} {N : List (List Str)}, PySem.W.EachIs (RdN s) vs N →
    ∃ fs : List (Option Value), (∀ {Q : List (Option Value) → Shared → Prop}, Q fs s → wpAny M A (vs.mapM firstOfTuple') Q E s) ∧ fs.map Option.isSome = N.map fun a => !a.isEmpty
  | _, _, .nil => ⟨[], fun h => by rw [List.mapM_nil]; exact wpAny_pure h, rfl⟩
  | v :: vs, a :: N, .cons h t => by
    obtain ⟨fs, h1, h2⟩ := nm_firsts (M := M) t
    obtain ⟨as, h⟩ := h
    cases h with
    | @tuple p o xs n _ _ ho hc hd hr =>
      refine ⟨xs[0]? :: fs, fun {Q} hq => ?_, ?_⟩
      · rw [List.mapM_cons]
        refine wpAny_bind ?_
        rw [PySem.W.kas_first_eq]
        have lk : PySem.W.Looks M s.heap (typeOf (.ref p)) o.cls := (PySem.W.Looks.ld ho).andThen .now
        refine wpAny_bind (lk.here ?_)
        rw [hc, if_neg (by decide)]
        refine wpAny_bind (listItems_at ho hd (wpAny_pure ?_))
        exact wpAny_bind (h1 (Q := fun bs s' => wpAny M A (pure (xs[0]? :: bs)) Q E s') (wpAny_pure hq))
      · rw [List.map_cons, List.map_cons, h2]
        congr 1
        have hl : xs.size = a.length := by
          have := PySem.SeqAt.ReadsAll.length _ _ _ hr
          simpa using this
        cases a with
        | nil =>
          have : xs[0]? = none := by rw [Array.getElem?_eq_none]; rw [hl]; exact Nat.le_refl _
          rw [this]
          rfl
        | cons x r =>
          have h0 : 0 < xs.size := by rw [hl]; exact Nat.succ_pos _
          rw [Array.getElem?_eq_getElem h0]
          rfl
theorem nm_kind {vs : List Value} {N : List (List Str)} (e : PySem.W.EachIs (RdN s) vs N) (hn : (N.all fun a => !a.isEmpty) = false) (h2 : 2 ≤ vs.length) {M : Model} {Q : SortKind → Shared → Prop}
    (hq : Q (if (!(N.headD []).isEmpty) = true then general' else oneType') s) : wpAny M A (keyKind' vs.toArray) Q E s := by
  obtain ⟨fs, f1, f2⟩ := nm_firsts (M := M) (A := A) (E := E) e
  rw [keyKind'_eq, List.mapM_toArray, map_eq_pure_bind]
  refine wpAny_bind (wpAny_bind (f1 (wpAny_pure ?_)))
  have hall : ¬ (fs.toArray.all fun x => x.isSome) = true := by
    rw [List.all_toArray]
    have : fs.all (fun x => x.isSome) = (fs.map Option.isSome).all id := by rw [List.all_map]; rfl
    rw [this, f2, List.all_map]
    have : (N.all (id ∘ fun a => !a.isEmpty)) = false := hn
    rw [this]
    decide
  rw [if_neg hall]
  have hlen := e.length
  obtain ⟨a, N', rfl⟩ : ∃ a N', N = a :: N' := by
    cases N with
    | nil => rw [hlen] at h2; simp at h2
    | cons a N' => exact ⟨a, N', rfl⟩
  obtain ⟨f, fs', rfl⟩ : ∃ f fs', fs = f :: fs' := by
    cases fs with
    | nil => simp at f2
    | cons f fs' => exact ⟨f, fs', rfl⟩
  have hf : f.isSome = !a.isEmpty := by
    rw [List.map_cons, List.map_cons] at f2
    exact (List.cons.inj f2).1
  have h0 : (((f :: fs').toArray[0]?).bind id).isSome = !a.isEmpty := by
    rw [← hf]
    simp
  rw [h0]
  have hq' : Q (if (!a.isEmpty) = true then general' else oneType') s := hq
  cases hb : (!a.isEmpty) with
  | true =>
    rw [hb, if_pos rfl] at hq'
    rw [if_pos rfl]
    exact wpAny_pure hq'
  | false =>
    rw [hb, if_neg Bool.false_ne_true] at hq'
    rw [if_neg Bool.false_ne_true]
    rw [oneTypeOnly'_eq, List.mapM_toArray, map_eq_pure_bind]
    refine wpAny_bind (wpAny_bind (wpAny_bind (PySem.W.kas_mapM (r := Value.type "tuple") _ (fun v hv Q' hq => ?_) (wpAny_pure ?_))))
    · obtain ⟨a, _, as, r⟩ := e.left v hv
      exact (PySem.W.looks_reads r).here hq
    · obtain ⟨v, vs', rfl⟩ : ∃ v vs', vs = v :: vs' := by
        cases vs with
        | nil => simp at h2
        | cons v vs' => exact ⟨v, vs', rfl⟩
      have g1 : ((List.map (fun _ => Value.type "tuple") (v :: vs')).toArray.all fun x => x == Value.type "tuple") = true := by
        simp only [List.all_toArray, List.all_map, List.all_eq_true]
        intro _ _
        rfl
      have g0 : (List.map (fun _ => Value.type "tuple") (v :: vs')).toArray[0]? = some (Value.type "tuple") := by simp
      rw [g0]
      simp only [g1, if_true]
      exact wpAny_pure (wpAny_pure hq')
theorem tup_lt_call {Q : Value → Shared → Prop} {l b : Addr} {xs ys : Array Value} {e r : Nat → Bool} (h1 : s.heap.IsTuple l xs) (h2 : s.heap.IsTuple b ys)
    (he : ∀ j (h1 : j < xs.size) (h2 : j < ys.size), PySem.SeqAt.EqAt A.in1 s xs[j] ys[j] (e j)) (hr : ∀ j (h1 : j < xs.size) (h2 : j < ys.size), e j = false → PySem.SeqAt.RcLt A.in1 s xs[j] ys[j] (r j))
    (q : Q (.bool (PySem.SeqAt.firstLt e r (decide (xs.size < ys.size)) (List.range (min xs.size ys.size)))) s) : wpAny (model prog w) A (call (.builtin "tuple.__lt__") [.ref l, .ref b]) Q E s := by
  obtain ⟨⟨c1, d1, t1, l1⟩, a1, a2, n1, a3⟩ := id h1
  obtain ⟨⟨c2, d2, t2, l2⟩, b1, b2, n2, b3⟩ := id h2
  simp only at a2 a3 b2 b3
  subst a2 a3 b2 b3
  exact PySem.call_meets PySem.F.slot_tuple_lt ⟨_, a1, rfl⟩ PySem.F.entry_tuple_lt (PySem.F.args_tuple_lt_2 _ _) (PySem.SeqAt.tuple_ltAt l b xs ys n1 n2 d1 d2 l1 l2 e r) ⟨a1, b1, he, hr, q⟩
theorem one_lt_nm {a b : List Str} {x y : Value} {as bs : List Addr} {Q : Bool → Shared → Prop} (ra : Reads s.heap x (encNm a) as) (rb : Reads s.heap y (encNm b) bs) (hu : A.units + 10 < cLine) (hq : Q (ltN a b) s) : wpAny (model prog w) A (oneLt' true x y) Q E s := by
  have hal := alike_strs a b
  have hda : PyData.depthAll (a.map PyData.str) ≤ 1 := by
    have := depth_nm a
    simp only [encNm, PyData.depth] at this
    omega
  rw [← lt_nm, PySem.W.dataLt_tuple] at hq
  cases ra with
  | @tuple l o vs n _ _ h1 h2 h3 h4 =>
    cases rb with
    | @tuple l' o' vs' n' _ _ k1 k2 k3 k4 =>
      have n1 : vs.size = (a.map PyData.str).length := by simpa using PySem.SeqAt.ReadsAll.length _ _ _ h4
      have n2 : vs'.size = (b.map PyData.str).length := by simpa using PySem.SeqAt.ReadsAll.length _ _ _ k4
      rw [← PySem.W.firstLt_toks _ _ hal, ← n1, ← n2] at hq
      have hz : A.in1.units + min (PyData.depthAll (a.map PyData.str)) (PyData.depthAll (b.map PyData.str)) < cLine := by
        rw [in1_units]
        omega
      rw [oneLt'_eq]
      simp only [if_true]
      refine wpAny_bind (wpAny_cRoomFor (by omega) ?_)
      refine wpAny_bind (wpAny_callSpecialIfBound?_slot (T := "tuple") ⟨_, h1, h2⟩ PySem.F.slot_tuple_lt (tup_lt_call (e := PySem.SeqAt.pairEq _ _) (r := fun j => PySem.W.dataLt ((a.map PyData.str).getD j .none) ((b.map PyData.str).getD j .none)) ⟨_, h1, h2, _, h3⟩ ⟨_, k1, k2, _, k3⟩ (fun j j1 j2 => ?_) (fun j j1 j2 hj => ?_) (wpAny_truthy_bool hq)))
      · have z := PySem.W.eqAt_alikeAll _ _ A.in1 s vs.toList vs'.toList _ _ h4 k4 hal hz j (by simpa using j1) (by simpa using j2)
        simpa using z
      · have z := PySem.W.rcLt_alikeAll _ _ A.in1 s vs.toList vs'.toList _ _ h4 k4 hal hz j (by simpa using j1) (by simpa using j2) hj
        simpa using z
theorem all_alike (N : List (List Str)) : PySem.W.AllAlike (N.map encNm) := PySem.W.AllAlike.of fun a b => alike_nm a b
theorem nm_sorts {vs : List Value} {N : List (List Str)} (e : PySem.W.EachIs (RdN s) vs N) (hu : A.units + 10 < cLine) : PySem.W.SortsAt prog w A s (PySem.W.dataKind s.heap (N.map encNm)) vs := by
  have em := PySem.W.each_map (R := fun v d => ∃ as, Reads s.heap v d as) encNm e
  have inv : ∀ {v : Value} {k : List (Int ⊕ List Nat)}, (PySem.W.dataKind s.heap (N.map encNm)).keyOf v = some k → ∃ a as, Reads s.heap v (encNm a) as ∧ k = PySem.W.keyToks (encNm a) := fun {v k} h => by
    obtain ⟨d, as, hd, r, hk⟩ := PySem.W.dataKind_inv h
    obtain ⟨a, _, rfl⟩ := List.mem_map.mp hd
    exact ⟨a, as, r, hk⟩
  cases hn : (N.all fun a => !a.isEmpty) with
  | true =>
    refine PySem.W.SortsAt.data em (all_alike N) (.inl fun d hd => ?_) fun d hd => ?_
    · obtain ⟨a, ha, rfl⟩ := List.mem_map.mp hd
      have := List.all_eq_true.mp hn a ha
      cases a with
      | nil => cases this
      | cons x r => exact ⟨_, _, rfl⟩
    · obtain ⟨a, ha, rfl⟩ := List.mem_map.mp hd
      have := depth_nm a
      omega
  | false =>
    refine ⟨fun v hv => ?_, (if (!(N.headD []).isEmpty) = true then general' else oneType'), ?_, fun h2 E Q hq => nm_kind e hn h2 hq⟩
    · obtain ⟨d, hd, as, r⟩ := em.left v hv
      exact ⟨_, PySem.W.dataKind_some (all_alike N) hd r⟩
    · intro E x y ka kb Q h1 h2 hq
      obtain ⟨a, as, ra, rfl⟩ := inv h1
      obtain ⟨b, bs, rb, rfl⟩ := inv h2
      have hq' : Q (ltN a b) s := by
        rw [← lt_nm]
        exact hq
      have da := depth_nm a
      split
      · show wpAny (model prog w) A (oneLt' false x y) Q E s
        rw [← lt_nm] at hq'
        exact PySem.W.oneLt_alike (fun h => absurd h Bool.false_ne_true) ra rb (alike_nm a b) (fun z => by cases z) (by omega) hq'
      · rw [keyLt'_oneType]
        exact one_lt_nm ra rb hu hq'
end
section
variable {X : Cx}
/-- sorted(xs), xs a list of names -/
def rSortedNm (K : PySem.W.Frag) : List V → Hp → VK → Prop := fun vs H Q => ∃ (p : Addr) (xs : List V) (N : List (List Str)) (G : Hp), vs = [V.ref p] ∧ SqL K H p xs ∧ Same G H ∧ Reps K G xs (N.map encNm) ∧ N.length < 64 ∧
  ∀ ys l, Reps K G ys ((sortN N).map encNm) → H l = none → Q (.ref l) (upd H l (.lst ys))
theorem reads_strs {h : Heap} : ∀ {a : List Str} {us : List Value}, Vals (a.map V.str) us → ReadsAll h us (a.map PyData.str) []
  | [], us, r => by cases r; exact .nil
  | x :: a, us, r => by
    cases r with
    | cons h t =>
      obtain ⟨t', rfl⟩ := h
      exact .cons (as := []) (.str _ _) (reads_strs t)
theorem nm_reads {pins : List (Addr × Obj)} {σ : L2.St} {H G : Hp} {s : Shared} (I : Inv X pins σ H s) (sm : Same G H) {x : V} {v : Value} {a : List Str} (r : Rep X.K G x (encNm a)) (rv : RelV x v) : RdN s v a := by
  cases r with
  | @tup t ys _ q rr =>
    cases rv
    obtain ⟨its, r1, r2, _⟩ := I.tuple (sqT_keep sm q)
    rw [rr.strs_inv] at r1
    obtain ⟨o, h1, h2, n, h3⟩ := (show s.heap.IsTuple t its.toArray from r2)
    exact ⟨[], .tuple h1 h2 h3 (by simpa using reads_strs r1)⟩
abbrev RvN (K : PySem.W.Frag) (G : Hp) : Value → List Str → Prop := fun v a => ∃ x, RelV x v ∧ Rep K G x (encNm a)
theorem nm_each {K : PySem.W.Frag} {G : Hp} : ∀ {xs : List V} {us : List Value} {N : List (List Str)}, Reps K G xs (N.map encNm) → Vals xs us → PySem.W.EachIs (RvN K G) us N
  | [], us, N, r, v => by
    cases v
    cases N with
    | nil => exact .nil
    | cons a N => cases r
  | x :: xs, us, N, r, v => by
    cases v with
    | cons h t =>
      cases N with
      | nil => cases r
      | cons a N =>
        cases r with
        | cons r1 r2 => exact .cons ⟨x, h, r1⟩ (nm_each r2 t)
theorem nm_back {K : PySem.W.Frag} {G : Hp} : ∀ {us : List Value} {N : List (List Str)}, PySem.W.EachIs (RvN K G) us N → ∃ ys, Vals ys us ∧ Reps K G ys (N.map encNm)
  | _, _, .nil => ⟨[], .nil, .nil⟩
  | _, _, .cons ⟨x, h1, h2⟩ t => by
    obtain ⟨ys, t1, t2⟩ := nm_back t
    exact ⟨x :: ys, .cons h1 t1, .cons h2 t2⟩
theorem cr_sortedNm (hu : X.A.units + 100 < cLine) : CallR X (.builtin "sorted") (rSortedNm X.K) := by
  intro pins s σ H vs us Q I r h
  obtain ⟨p, xs, N, G, rfl, hs, sm, rr, h64, q⟩ := h
  obtain ⟨its, rv, hl, hz⟩ := I.list hs
  rw [Vals.ref1 r]
  have e := nm_each rr rv
  have er : PySem.W.EachIs (RdN s) its N := e.mono fun v a ⟨x, h1, h2⟩ => nm_reads I sm h2 h1
  have er' : PySem.W.EachIs (fun v b => ∃ as, Reads (PySem.W.sortingHeap (PySem.W.copyHeap s.heap its) (s.heap.objs.size + 1) its) v (encNm b) as) its N := er.mono fun _ _ ⟨as, r⟩ => ⟨as, PyProof.Rows.Reads.keeps (fun _ _ => PySem.W.sorting_copy_old) r⟩
  have hlen : its.length = N.length := e.length
  have out := PySem.W.sortVals_data (R := RvN X.K G) (enc := encNm) false e er' (all_alike N)
  rw [le_nm] at out
  obtain ⟨ys, y1, y2⟩ := nm_back out
  refine PySem.W.sorted_vals hl.isList (nm_sorts (s := { s with heap := PySem.W.sortingHeap (PySem.W.copyHeap s.heap its) (s.heap.objs.size + 1) its }) er' (by rw [in1_units, in1_units]; omega)) (by rw [hlen]; exact small64 h64) ?_
  obtain ⟨ep, he'⟩ := PyProof.Rows.sortedAll_at s.heap its (PySem.W.sortVals (PySem.W.dataKind (PySem.W.sortingHeap (PySem.W.copyHeap s.heap its) (s.heap.objs.size + 1) its) (N.map encNm)) false its its).toArray
  have hyl : ys.length ≤ sizeLine := by
    have := y2.length
    rw [List.length_map] at this
    rw [this]
    rw [List.length_mergeSort]
    exact small64 h64
  exact ⟨.ref _, upd H (s.heap.objs.size + 1) (.lst ys), I.laid (t' := s.toks) (fun _ _ => PyProof.Rows.sortedAll_old) (Nat.le_succ _) ⟨hyl, _, ep, y1, he'⟩, rfl, q ys _ y2 (I.hok.fresh (Nat.le_succ _))⟩
end
end NW
end

section
set_option maxHeartbeats 4000000
/-! Truth, subscripts, slices, built-ins, methods over data. -/
namespace NW
open PySem PySem.Spec PyProof.Rows L2

theorem isEmpty_reps {K : PySem.W.Frag} {G : Hp} {vs : List V} {ds : List Dat} (r : Reps K G vs ds) : vs.isEmpty = ds.isEmpty := by cases r <;> rfl
theorem tru_of {K : PySem.W.Frag} {H G : Hp} (sm : Same G H) {v : V} {d : Dat} {b : Bool} (r : RW K H G v d) (h : truD d = .ok b) : TruV K v H b := by
  cases d with
  | none => have := r.non; subst this; cases h; rfl
  | bool _ => have := r.bool; subst this; cases h; rfl
  | int _ => have := r.int; subst this; cases h; rfl
  | str s =>
    have := r.str; subst this
    simp only [truD] at h
    split at h <;> cases h
    rename_i hz
    refine ⟨le_line hz, ?_⟩
    by_cases z : s.length = 0
    · simp [z]
    · have z2 : ((s.length : Nat) : Int) ≠ 0 := by omega
      simp [z, z2]
  | list ds => obtain ⟨a, vs, rfl, q, rr⟩ := r.list sm; cases h; exact .inl ⟨vs, q, by rw [isEmpty_reps rr]⟩
  | tuple ds => obtain ⟨a, vs, rfl, q, rr⟩ := r.tup sm; cases h; exact .inr (.inl ⟨vs, sqT_keep sm q, by rw [isEmpty_reps rr]⟩)
  | dict _ => cases h
theorem ixN_len {α β : Type} {xs : List α} {ys : List β} (h : xs.length = ys.length) {i : Int} {d : β} (e : atI ys i = some d) : ∃ j, ixN xs.length i = some j ∧ ys[j]? = some d := by
  unfold atI at e
  rw [← h] at e
  cases q : ixN xs.length i with
  | none => rw [q] at e; cases e
  | some j => rw [q] at e; exact ⟨j, rfl, e⟩
theorem reps_at {K : PySem.W.Frag} {G : Hp} {vs : List V} {ds : List Dat} (r : Reps K G vs ds) {i : Int} {d : Dat} (e : atI ds i = some d) : ∃ v, atI vs i = some v ∧ Rep K G v d := by
  obtain ⟨j, h1, h2⟩ := ixN_len r.length e
  obtain ⟨v, h3, h4⟩ := r.get h2
  exact ⟨v, by unfold atI; rw [h1]; exact h3, h4⟩
section
variable {X : Cx}
theorem ix_data : IxR X (R2D X.K ixD) := by
  intro value slice pins s σ H x y v u Q I rx ry h hs
  obtain ⟨G, d, e, r, sm, rd, re, hf, fin⟩ := h
  cases d <;> cases e <;> simp only [ixD] at hf <;> try (cases hf; done)
  · split at hf
    · have := re.int; subst this
      have := rd.str; subst this
      rename_i hz
      split at hf <;> cases hf
      rename_i c hc
      exact ix_str value slice pins s σ H _ _ v u Q I rx ry ⟨_, _, c, rfl, rfl, le_line hz, hc, fin.flat sm (.str _)⟩ hs
    · cases hf
  · split at hf <;> cases hf
    rename_i i hi
    have := re.int; subst this
    obtain ⟨a, vs, rfl, q, rr⟩ := rd.list sm
    obtain ⟨w, h1, h2⟩ := reps_at rr hi
    exact ix_list value slice pins s σ H _ _ v u Q I rx ry ⟨_, _, _, w, rfl, rfl, q, h1, fin.here sm h2⟩ hs
  · split at hf <;> cases hf
    rename_i i hi
    have := re.int; subst this
    obtain ⟨a, vs, rfl, q, rr⟩ := rd.tup sm
    obtain ⟨w, h1, h2⟩ := reps_at rr hi
    exact ix_tup value slice pins s σ H _ _ v u Q I rx ry ⟨_, _, _, w, rfl, rfl, sqT_keep sm q, h1, fin.here sm h2⟩ hs
theorem cut_reps {K : PySem.W.Frag} {G : Hp} {vs : List V} {ds : List Dat} (r : Reps K G vs ds) (lo hi : Option Int) : Reps K G (cutV vs lo hi) (cutL ds lo hi) := by
  unfold cutV cutL
  rw [r.length]
  exact (r.drop _).take _
theorem cut_whole {α : Type} {xs : List α} {lo hi : Option Int} (h : HT.sIx xs.length 0 lo = 0 ∧ HT.sIx xs.length xs.length hi = xs.length) : cutL xs lo hi = xs := by
  unfold cutL
  rw [h.1, h.2]
  simp
/-- a slice by data -/
def rSlD (K : PySem.W.Frag) : V → Option Int → Option Int → Hp → VK → Prop := fun x lo hi H Q => ∃ G d r, Same G H ∧ RW K H G x d ∧ slD d lo hi = .ok r ∧ Fin K H G Q r
theorem sl_data : SlR X (rSlD X.K) := by
  intro pins s σ H x v vl vu lo hi sl Q I rx hs pl pu h
  obtain ⟨G, d, r, sm, rd, hf, fin⟩ := h
  cases d <;> simp only [slD] at hf <;> try (cases hf; done)
  · split at hf <;> cases hf
    rename_i hz
    have := rd.str; subst this
    exact sl_str pins s σ H _ v vl vu lo hi sl Q I rx hs pl pu ⟨_, rfl, le_line hz, fin.flat sm (.str _)⟩
  · cases hf
    obtain ⟨a, vs, rfl, q, rr⟩ := rd.list sm
    exact sl_list pins s σ H _ v vl vu lo hi sl Q I rx hs pl pu ⟨a, vs, rfl, q, fun p np => (New.still fin).lst sm (cut_reps rr lo hi) p np⟩
  · cases hf
    obtain ⟨a, vs, rfl, q, rr⟩ := rd.tup sm
    refine sl_tupA pins s σ H _ v vl vu lo hi sl Q I rx hs pl pu ⟨a, vs, rfl, sqT_keep sm q, fun e => ?_, fun _ p np => fin.tup sm (cut_reps rr lo hi) p np⟩
    rw [rr.length] at e
    rw [cut_whole e] at fin
    exact fin.here sm (.tup q rr)

/-! ### built-ins -/
inductive RWs (K : PySem.W.Frag) (H G : Hp) : List V → List Dat → Prop
  | nil : RWs K H G [] []
  | cons {v : V} {vs : List V} {d : Dat} {ds : List Dat} : RW K H G v d → RWs K H G vs ds → RWs K H G (v :: vs) (d :: ds)
def nmB (f : Bi) : Str := match f with
  | .len => "len"
  | .min2 => "min"
  | .max2 => "max"
  | .int => "int"
  | .str => "str"
  | .ord => "ord"
  | .tuple => "tuple"
  | .list => "list"
  | .any => "any"
  | .all => "all"
  | .min1 => "min"
  | .sorted => "sorted"
def vlB (f : Bi) : Value := match f with
  | .len => .builtin "len"
  | .min2 => .builtin "min"
  | .max2 => .builtin "max"
  | .int => .type "int"
  | .str => .type "str"
  | .ord => .builtin "ord"
  | .tuple => .type "tuple"
  | .list => .type "list"
  | .any => .builtin "any"
  | .all => .builtin "all"
  | .min1 => .builtin "min"
  | .sorted => .builtin "sorted"
theorem boot_bi (f : Bi) : bootBuiltins (nmB f) = some (vlB f) := by cases f <;> decide +kernel
/-- a call of a built-in by data -/
def rBi (K : PySem.W.Frag) (f : Bi) : List V → Hp → VK → Prop := fun vs H Q => ∃ G ds r, Same G H ∧ RWs K H G vs ds ∧ biD f ds = .ok r ∧ Fin K H G Q r
theorem rws1 {K : PySem.W.Frag} {H G : Hp} {vs : List V} {d : Dat} (r : RWs K H G vs [d]) : ∃ v, vs = [v] ∧ RW K H G v d := by
  cases r with | cons r t => cases t; exact ⟨_, rfl, r⟩
theorem rws2 {K : PySem.W.Frag} {H G : Hp} {vs : List V} {d e : Dat} (r : RWs K H G vs [d, e]) : ∃ v w, vs = [v, w] ∧ RW K H G v d ∧ RW K H G w e := by
  cases r with | cons r t => obtain ⟨w, rfl, q⟩ := rws1 t; exact ⟨_, _, rfl, r, q⟩
theorem biD1 {f : Bi} {ds : List Dat} {r : Dat} (h : biD f ds = .ok r) : (∃ d, ds = [d]) ∨ (∃ d e, ds = [d, e]) := by
  cases f <;> (rcases ds with _ | ⟨a, _ | ⟨b, _ | ⟨c, t⟩⟩⟩) <;> first | exact .inl ⟨_, rfl⟩ | exact .inr ⟨_, _, rfl⟩ | (simp only [biD] at h; cases h; done) | (simp [biD] at h; done)
theorem strsD_some : ∀ {ds : List Dat} {ys : List Str}, strsD ds = some ys → ds = ys.map PyData.str
  | [], ys, h => by cases h; rfl
  | d :: ds, ys, h => by
    cases d <;> simp only [strsD] at h <;> try (cases h; done)
    cases q : strsD ds with
    | none => rw [q] at h; cases h
    | some zs => rw [q] at h; cases h; rw [strsD_some q]; rfl
theorem intsD_some : ∀ {ds : List Dat} {ys : List Int}, intsD ds = some ys → ds = ys.map PyData.int
  | [], ys, h => by cases h; rfl
  | d :: ds, ys, h => by
    cases d <;> simp only [intsD] at h <;> try (cases h; done)
    cases q : intsD ds with
    | none => rw [q] at h; cases h
    | some zs => rw [q] at h; cases h; rw [intsD_some q]; rfl
theorem boolsD_some : ∀ {ds : List Dat} {ys : List Bool}, boolsD ds = some ys → ds = ys.map PyData.bool
  | [], ys, h => by cases h; rfl
  | d :: ds, ys, h => by
    cases d <;> simp only [boolsD] at h <;> try (cases h; done)
    cases q : boolsD ds with
    | none => rw [q] at h; cases h
    | some zs => rw [q] at h; cases h; rw [boolsD_some q]; rfl
theorem reps_bools {K : PySem.W.Frag} {G : Hp} : ∀ {bs : List Bool} {vs : List V}, Reps K G vs (bs.map PyData.bool) → vs = bs.map V.bl
  | [], vs, h => by cases h; rfl
  | b :: bs, vs, h => by
    cases h with
    | cons r t => cases r; rw [reps_bools t]; rfl
theorem reps_ints_inv {K : PySem.W.Frag} {G : Hp} : ∀ {bs : List Int} {vs : List V}, Reps K G vs (bs.map PyData.int) → vs = bs.map V.int
  | [], vs, h => by cases h; rfl
  | b :: bs, vs, h => by
    cases h with
    | cons r t => cases r; rw [reps_ints_inv t]; rfl
theorem minL_mem : ∀ (r : List Int) (n : Int), minL n r ∈ n :: r
  | [], n => by simp [minL]
  | b :: r, n => by
    have e : minL n (b :: r) = minL (if b < n then b else n) r := rfl
    rw [e]
    have z := minL_mem r (if b < n then b else n)
    by_cases hb : b < n
    · rw [if_pos hb] at z ⊢
      simp only [List.mem_cons] at z ⊢
      rcases z with z | z
      · exact .inr (.inl z)
      · exact .inr (.inr z)
    · rw [if_neg hb] at z ⊢
      simp only [List.mem_cons] at z ⊢
      rcases z with z | z
      · exact .inl z
      · exact .inr (.inr z)
theorem minL_le : ∀ (r : List Int) (n : Int), minL n r ≤ n ∧ ∀ y ∈ r, minL n r ≤ y
  | [], n => by simp [minL]
  | b :: r, n => by
    have e : minL n (b :: r) = minL (if b < n then b else n) r := rfl
    rw [e]
    obtain ⟨h1, h2⟩ := minL_le r (if b < n then b else n)
    have h3 : (if b < n then b else n) ≤ n ∧ (if b < n then b else n) ≤ b := by split <;> omega
    refine ⟨by omega, fun y hy => ?_⟩
    simp only [List.mem_cons] at hy
    rcases hy with rfl | hy
    · omega
    · exact h2 y hy
theorem ltCps_iff : ∀ a b : List Nat, ltCps a b = true ↔ a < b
  | [], [] => by simp [ltCps]
  | [], _ :: _ => by simp [ltCps]
  | _ :: _, [] => by simp [ltCps]
  | x :: a, y :: b => by
    rw [List.cons_lt_cons_iff, ← ltCps_iff a b]
    simp [ltCps]
theorem leS_iff (a b : Str) : leS a b = true ↔ a.cps.toList ≤ b.cps.toList := by
  unfold leS
  rw [← List.not_lt, ← ltCps_iff]
  simp
theorem leS_trans (a b c : Str) (h1 : leS a b = true) (h2 : leS b c = true) : leS a c = true := by
  rw [leS_iff] at *
  exact List.le_trans h1 h2
theorem leS_total (a b : Str) : (leS a b || leS b a) = true := by
  rw [Bool.or_eq_true, leS_iff, leS_iff]
  exact List.le_total _ _
theorem leS_anti (a b : Str) (h1 : leS a b = true) (h2 : leS b a = true) : a = b := by
  rw [leS_iff] at *
  have := List.le_antisymm h1 h2
  cases a; cases b
  simp at this
  simp [this]
theorem rising_pair : ∀ (r : List Str) (x : Str), PyProof.Rows.risingS x r = true → (x :: r).Pairwise (fun a b => leS a b = true)
  | [], x, _ => by simp
  | y :: r, x, h => by
    rw [PyProof.Rows.risingS] at h
    rw [Bool.and_eq_true] at h
    have z := rising_pair r y h.2
    have h1 : leS x y = true := h.1
    rw [List.pairwise_cons] at z ⊢
    refine ⟨fun a ha => ?_, by rw [List.pairwise_cons]; exact z⟩
    simp only [List.mem_cons] at ha
    rcases ha with rfl | ha
    · exact h1
    · exact leS_trans _ _ _ h1 (z.1 a ha)
theorem sortStr_pair (xs : List Str) : (sortStr xs).Pairwise (fun a b => leS a b = true) := List.pairwise_mergeSort leS_trans leS_total xs
theorem sortStr_perm (xs : List Str) : (sortStr xs).Perm xs := List.mergeSort_perm xs leS
theorem sortStr_uniq (xs ys : List Str) (h : ys.Perm xs) (s : PyProof.Rows.sortedS ys = true) : ys = sortStr xs := by
  have p : ys.Pairwise (fun a b => leS a b = true) := by
    cases ys with
    | nil => exact List.Pairwise.nil
    | cons y ys => exact rising_pair ys y s
  exact List.Perm.eq_of_pairwise (fun a b _ _ => leS_anti a b) p (sortStr_pair xs) (h.trans (sortStr_perm xs).symm)
theorem namesD_some : ∀ {ds : List Dat} {N : List (List Str)}, namesD ds = some N → ds = N.map encNm
  | [], N, h => by simp only [namesD] at h; cases h; rfl
  | d :: ds, N, h => by
    cases d <;> simp only [namesD] at h <;> try (cases h; done)
    rename_i xs
    cases q : strsD xs with
    | none => rw [q] at h; cases h
    | some a =>
      rw [q] at h
      simp only at h
      cases q2 : namesD ds with
      | none => rw [q2] at h; cases h
      | some M =>
        rw [q2] at h
        cases h
        rw [namesD_some q2, strsD_some q]
        rfl
theorem call_bi (hc : X.calm = true) (hu : X.A.units + 100 < cLine) (f : Bi) : CallR X (vlB f) (rBi X.K f) := by
  intro pins s σ H xs us Q I r h
  obtain ⟨G, ds, d, sm, rs, hf, fin⟩ := h
  cases f with
  | len =>
    rcases biD1 hf with ⟨a, rfl⟩ | ⟨a, b, rfl⟩
    · obtain ⟨v, rfl, rv⟩ := rws1 rs
      cases a <;> simp only [biD] at hf <;> try (cases hf; done)
      · split at hf <;> cases hf
        rename_i hz
        have := rv.str; subst this
        exact call_len pins s σ H _ us Q I r ⟨_, _, rfl, ⟨le_line hz, rfl⟩, fin.flat sm (.int _)⟩
      · cases hf
        obtain ⟨p, vs, rfl, q, rr⟩ := rv.list sm
        rw [← rr.length] at fin
        exact call_len pins s σ H _ us Q I r ⟨_, vs.length, rfl, .inl ⟨vs, q, rfl⟩, fin.flat sm (.int _)⟩
      · cases hf
        obtain ⟨p, vs, rfl, q, rr⟩ := rv.tup sm
        rw [← rr.length] at fin
        exact call_len pins s σ H _ us Q I r ⟨_, vs.length, rfl, .inr ⟨vs, sqT_keep sm q, rfl⟩, fin.flat sm (.int _)⟩
    · cases a <;> simp only [biD] at hf <;> cases hf
  | min2 =>
    rcases biD1 hf with ⟨a, rfl⟩ | ⟨a, b, rfl⟩
    · cases a <;> simp only [biD] at hf <;> cases hf
    · cases a <;> cases b <;> simp only [biD] at hf <;> try (cases hf; done)
      cases hf
      obtain ⟨v, w, rfl, r1, r2⟩ := rws2 rs
      have := r1.int; subst this
      have := r2.int; subst this
      exact call_min2 hc pins s σ H _ us Q I r ⟨_, _, rfl, fin.flat sm (.int _)⟩
  | max2 =>
    rcases biD1 hf with ⟨a, rfl⟩ | ⟨a, b, rfl⟩
    · cases a <;> simp only [biD] at hf <;> cases hf
    · cases a <;> cases b <;> simp only [biD] at hf <;> try (cases hf; done)
      cases hf
      obtain ⟨v, w, rfl, r1, r2⟩ := rws2 rs
      have := r1.int; subst this
      have := r2.int; subst this
      exact call_max2 hc pins s σ H _ us Q I r ⟨_, _, rfl, fin.flat sm (.int _)⟩
  | int =>
    rcases biD1 hf with ⟨a, rfl⟩ | ⟨a, b, rfl⟩
    · cases a <;> simp only [biD] at hf <;> try (cases hf; done)
      · cases hf
        obtain ⟨v, rfl, rv⟩ := rws1 rs
        have hv : v = .bl _ := RW.bool rv
        subst hv
        exact call_int1 pins s σ H _ us Q I r (.inr ⟨_, rfl, fin.flat sm (.int _)⟩)
      split at hf
      · rename_i n hn
        split at hf <;> cases hf
        rename_i hz
        obtain ⟨v, rfl, rv⟩ := rws1 rs
        have := rv.str; subst this
        exact call_int_str pins s σ H _ us Q I r ⟨_, _, rfl, hn, hz, fin.flat sm (.int _)⟩
      · cases hf
    · cases a <;> simp only [biD] at hf <;> cases hf
  | str =>
    rcases biD1 hf with ⟨a, rfl⟩ | ⟨a, b, rfl⟩
    · cases a <;> simp only [biD] at hf <;> try (cases hf; done)
      split at hf <;> cases hf
      rename_i hz
      obtain ⟨v, rfl, rv⟩ := rws1 rs
      have := rv.int; subst this
      exact call_str_int pins s σ H _ us Q I r ⟨_, rfl, hz, fin.flat sm (.str _)⟩
    · cases a <;> simp only [biD] at hf <;> cases hf
  | ord =>
    rcases biD1 hf with ⟨a, rfl⟩ | ⟨a, b, rfl⟩
    · cases a <;> simp only [biD] at hf <;> try (cases hf; done)
      split at hf <;> cases hf
      rename_i hz
      obtain ⟨v, rfl, rv⟩ := rws1 rs
      have := rv.str; subst this
      exact call_ord pins s σ H _ us Q I r ⟨_, rfl, hz, fin.flat sm (.int _)⟩
    · cases a <;> simp only [biD] at hf <;> cases hf
  | tuple =>
    rcases biD1 hf with ⟨a, rfl⟩ | ⟨a, b, rfl⟩
    · obtain ⟨v, rfl, rv⟩ := rws1 rs
      cases a <;> simp only [biD] at hf <;> try (cases hf; done)
      · cases hf
        obtain ⟨p, vs, rfl, q, rr⟩ := rv.list sm
        exact call_tuple_of pins s σ H _ us Q I r ⟨_, vs, rfl, .inl ⟨q, fun l nl => fin.tup sm rr l nl⟩⟩
      · cases hf
        obtain ⟨p, vs, rfl, q, rr⟩ := rv.tup sm
        exact call_tuple_of pins s σ H _ us Q I r ⟨_, vs, rfl, .inr ⟨sqT_keep sm q, fin.here sm (.tup q rr)⟩⟩
    · cases a <;> simp only [biD] at hf <;> cases hf
  | list =>
    rcases biD1 hf with ⟨a, rfl⟩ | ⟨a, b, rfl⟩
    · obtain ⟨v, rfl, rv⟩ := rws1 rs
      cases a <;> simp only [biD] at hf <;> try (cases hf; done)
      · cases hf
        obtain ⟨p, vs, rfl, q, rr⟩ := rv.list sm
        exact call_list_of pins s σ H _ us Q I r ⟨_, vs, rfl, .inl q, fun l nl => (New.still fin).lst sm rr l nl⟩
      · cases hf
        obtain ⟨p, vs, rfl, q, rr⟩ := rv.tup sm
        exact call_list_of pins s σ H _ us Q I r ⟨_, vs, rfl, .inr (sqT_keep sm q), fun l nl => (New.still fin).lst sm rr l nl⟩
    · cases a <;> simp only [biD] at hf <;> cases hf
  | any =>
    rcases biD1 hf with ⟨a, rfl⟩ | ⟨a, b, rfl⟩
    · cases a <;> simp only [biD] at hf <;> try (cases hf; done)
      unfold anyD at hf
      split at hf <;> cases hf
      rename_i bs hb
      obtain ⟨v, rfl, rv⟩ := rws1 rs
      obtain ⟨p, vs, rfl, q, rr⟩ := rv.list sm
      rw [boolsD_some hb] at rr
      rw [reps_bools rr] at q
      exact cr_any hc pins s σ H _ us Q I r ⟨p, bs, rfl, q, fin.flat sm (.bl _)⟩
    · cases a <;> simp only [biD] at hf <;> cases hf
  | all =>
    rcases biD1 hf with ⟨a, rfl⟩ | ⟨a, b, rfl⟩
    · cases a <;> simp only [biD] at hf <;> try (cases hf; done)
      unfold allD at hf
      split at hf <;> cases hf
      rename_i bs hb
      obtain ⟨v, rfl, rv⟩ := rws1 rs
      obtain ⟨p, vs, rfl, q, rr⟩ := rv.list sm
      rw [boolsD_some hb] at rr
      rw [reps_bools rr] at q
      exact cr_all hc pins s σ H _ us Q I r ⟨p, bs, rfl, q, fin.flat sm (.bl _)⟩
    · cases a <;> simp only [biD] at hf <;> cases hf
  | min1 =>
    rcases biD1 hf with ⟨a, rfl⟩ | ⟨a, b, rfl⟩
    · cases a <;> simp only [biD] at hf <;> try (cases hf; done)
      unfold minD at hf
      split at hf <;> cases hf
      rename_i n ns hb
      obtain ⟨v, rfl, rv⟩ := rws1 rs
      obtain ⟨p, vs, rfl, q, rr⟩ := rv.list sm
      rw [intsD_some hb] at rr
      rw [reps_ints_inv rr] at q
      refine cr_min hc pins s σ H _ us Q I r ⟨p, n :: ns, rfl, q, by simp, fun m hm hl => ?_⟩
      have e : m = minL n ns := by
        have h1 := hl _ (minL_mem ns n)
        obtain ⟨h2, h3⟩ := minL_le ns n
        simp only [List.mem_cons] at hm
        rcases hm with rfl | hm
        · omega
        · have := h3 m hm
          omega
      rw [e]
      exact fin.flat sm (.int _)
    · cases a <;> simp only [biD] at hf <;> cases hf
  | sorted =>
    rcases biD1 hf with ⟨a, rfl⟩ | ⟨a, b, rfl⟩
    · cases a <;> simp only [biD] at hf <;> try (cases hf; done)
      unfold sortD at hf
      split at hf
      · rename_i xs hx
        split at hf <;> cases hf
        rename_i hz
        obtain ⟨v, rfl, rv⟩ := rws1 rs
        obtain ⟨p, vs, rfl, q, rr⟩ := rv.list sm
        rw [strsD_some hx] at rr
        rw [rr.strs_inv] at q
        refine cr_sortedS pins s σ H _ us Q I r ⟨p, xs, rfl, q, hz, fun ys l hp hs nl => ?_⟩
        rw [sortStr_uniq xs ys hp hs]
        exact (New.still fin).lst sm (Reps.strs _) l nl
      · unfold sortND at hf
        split at hf
        · rename_i N hx
          split at hf <;> cases hf
          rename_i hz
          obtain ⟨v, rfl, rv⟩ := rws1 rs
          obtain ⟨p, vs, rfl, q, rr⟩ := rv.list sm
          rw [namesD_some hx] at rr
          exact cr_sortedNm hu pins s σ H _ us Q I r ⟨p, vs, N, G, rfl, q, sm, rr, hz, fun ys l ry nl => (New.still fin).lst sm ry l nl⟩
        · cases hf
    · cases a <;> simp only [biD] at hf <;> cases hf
/-- list(x) as a list of one's own -/
def rListN (K : PySem.W.Frag) : List V → Hp → VK → Prop := fun vs H Q => ∃ G d ds, Same G H ∧ RWs K H G vs [d] ∧ biD .list [d] = .ok (.list ds) ∧ New K H G Q ds
theorem call_listN : CallR X (.type "list") (rListN X.K) := by
  intro pins s σ H xs us Q I r h
  obtain ⟨G, d, ds, sm, rs, hf, fin⟩ := h
  obtain ⟨v, rfl, rv⟩ := rws1 rs
  cases d <;> simp only [biD] at hf <;> try (cases hf; done)
  · cases hf
    obtain ⟨p, vs, rfl, q, rr⟩ := rv.list sm
    exact call_list_of pins s σ H _ us Q I r ⟨_, vs, rfl, .inl q, fun l nl => fin.lst sm rr l nl⟩
  · cases hf
    obtain ⟨p, vs, rfl, q, rr⟩ := rv.tup sm
    exact call_list_of pins s σ H _ us Q I r ⟨_, vs, rfl, .inr (sqT_keep sm q), fun l nl => fin.lst sm rr l nl⟩

/-- sorted(x) as a list of one's own -/
def rSortN (K : PySem.W.Frag) : List V → Hp → VK → Prop := fun vs H Q => ∃ G d ds, Same G H ∧ RWs K H G vs [d] ∧ biD .sorted [d] = .ok (.list ds) ∧ New K H G Q ds
theorem call_sortedN (hc : X.calm = true) (hu : X.A.units + 100 < cLine) : CallR X (.builtin "sorted") (rSortN X.K) := by
  intro pins s σ H xs us Q I r h
  obtain ⟨G, d, ds, sm, rs, hf, fin⟩ := h
  obtain ⟨v, rfl, rv⟩ := rws1 rs
  cases d <;> simp only [biD] at hf <;> try (cases hf; done)
  unfold sortD at hf
  split at hf
  · rename_i xs hx
    split at hf <;> cases hf
    rename_i hz
    obtain ⟨p, vs, rfl, q, rr⟩ := rv.list sm
    rw [strsD_some hx] at rr
    rw [rr.strs_inv] at q
    refine cr_sortedS pins s σ H _ us Q I r ⟨p, xs, rfl, q, hz, fun ys l hp hs nl => ?_⟩
    rw [sortStr_uniq xs ys hp hs]
    exact fin.lst sm (Reps.strs _) l nl
  · unfold sortND at hf
    split at hf
    · rename_i N hx
      split at hf <;> cases hf
      rename_i hz
      obtain ⟨p, vs, rfl, q, rr⟩ := rv.list sm
      rw [namesD_some hx] at rr
      exact cr_sortedNm hu pins s σ H _ us Q I r ⟨p, vs, N, G, rfl, q, sm, rr, hz, fun ys l ry nl => fin.lst sm ry l nl⟩
    · cases hf

/-! ### isinstance -/
def nmT (t : Ty) : String := match t with
  | .int => "int"
  | .str => "str"
  | .bool => "bool"
  | .tuple => "tuple"
  | .list => "list"
theorem boot_ty (t : Ty) : bootBuiltins (PySem.Str.ofString (nmT t)) = some (.type (nmT t)) := by cases t <;> decide +kernel
theorem tyX_list {K : PySem.W.Frag} {H : Hp} {a : Addr} {vs : List V} (h : SqL K H a vs) : TyX K H (.ref a) (.type "list") := by
  rcases h with (h | ⟨o, h⟩) | ⟨o, its, n, h, c, _⟩
  · exact .base (.lst h)
  · exact .base (.frz h)
  · exact .kList h c
theorem tyX_tup {K : PySem.W.Frag} {H : Hp} {a : Addr} {vs : List V} (h : SqT K H a vs) : TyX K H (.ref a) (.type "tuple") := by
  rcases h with (h | ⟨o, h⟩) | ⟨o, its, n, h, c, _⟩
  · exact .base (.tup h)
  · exact .fTuple h
  · exact .kTuple h c
def rIsiD (K : PySem.W.Frag) (t : Ty) : List V → Hp → VK → Prop := fun vs H Q => ∃ G d v r, Same G H ∧ vs = [v, .ty (nmT t)] ∧ RW K H G v d ∧ isiD t d = .ok r ∧ Q (.bl r) H
theorem call_isiD (t : Ty) : CallR X (.builtin "isinstance") (rIsiD X.K t) := by
  intro pins s σ H xs us Q I r h
  obtain ⟨G, d, v, b, sm, rfl, rv, hf, q⟩ := h
  have key : ∃ T, TyX X.K H v (.type T) ∧ kitB T (nmT t) = some b := by
    cases d with
    | none => have := rv.non; subst this; refine ⟨_, .base .non, ?_⟩; cases t <;> simp only [isiD] at hf <;> cases hf <;> decide +kernel
    | bool x => have := rv.bool; subst this; refine ⟨_, .base (.bl _), ?_⟩; cases t <;> simp only [isiD] at hf <;> cases hf <;> decide +kernel
    | int x => have := rv.int; subst this; refine ⟨_, .base (.int _), ?_⟩; cases t <;> simp only [isiD] at hf <;> cases hf <;> decide +kernel
    | str x => have := rv.str; subst this; refine ⟨_, .base (.str _), ?_⟩; cases t <;> simp only [isiD] at hf <;> cases hf <;> decide +kernel
    | list x => obtain ⟨a, vs, rfl, q, _⟩ := rv.list sm; refine ⟨_, tyX_list q, ?_⟩; cases t <;> simp only [isiD] at hf <;> cases hf <;> decide +kernel
    | tuple x => obtain ⟨a, vs, rfl, q, _⟩ := rv.tup sm; refine ⟨_, tyX_tup (sqT_keep sm q), ?_⟩; cases t <;> simp only [isiD] at hf <;> cases hf <;> decide +kernel
    | dict x => cases t <;> simp only [isiD] at hf <;> cases hf
  obtain ⟨T, h1, h2⟩ := key
  exact call_isi pins s σ H _ us Q I r ⟨v, .ty (nmT t), .type T, .type (nmT t), b, rfl, .ty _, h1, kit_ty h2, q⟩

/-! ### methods of texts -/
def nm0 (m : M0) : Str := match m with
  | .lower => "lower"
  | .upper => "upper"
def id0 (m : M0) : String := match m with
  | .lower => "str.lower"
  | .upper => "str.upper"
theorem slot0 (m : M0) : Slot "str" (nm0 m) (id0 m) := by
  cases m
  · exact F.slot_str_lower
  · exact F.slot_str_upper
theorem type0 (m : M0) : typeOf (.builtin (id0 m)) = pure (.type "method_descriptor") := by
  cases m
  · exact F.type_str_lower
  · exact F.type_str_upper
def rM0 (K : PySem.W.Frag) (m : M0) : V → List V → Hp → VK → Prop := fun x xs H Q => xs = [] ∧ ∃ G d r, Same G H ∧ RW K H G x d ∧ m0D m d = .ok r ∧ Fin K H G Q r
theorem small_case {n : Nat} (h : n ≤ 1000000) : n ≤ 5592405 := by omega
theorem mt0_data (m : M0) : MtR X (id0 m) (rM0 X.K m) := by
  intro pins s σ H x xs v us Q I rx rs h
  obtain ⟨rfl, G, d, r, sm, rd, hf, fin⟩ := h
  cases m <;> (cases d <;> simp only [m0D] at hf <;> try (cases hf; done))
  · split at hf <;> cases hf
    rename_i hz
    have := rd.str; subst this
    exact mt_lower pins s σ H _ _ v us Q I rx rs ⟨_, rfl, rfl, small_case hz, fin.flat sm (.str _)⟩
  · split at hf <;> cases hf
    rename_i hz
    have := rd.str; subst this
    exact mt_upper pins s σ H _ _ v us Q I rx rs ⟨_, rfl, rfl, small_case hz, fin.flat sm (.str _)⟩
def nm1 (m : M1) : Str := match m with
  | .startswith => "startswith"
  | .endswith => "endswith"
  | .split => "split"
  | .join => "join"
  | .index => "index"
  | .rstrip => "rstrip"
  | .find => "find"
def id1 (m : M1) : String := match m with
  | .startswith => "str.startswith"
  | .endswith => "str.endswith"
  | .split => "str.split"
  | .join => "str.join"
  | .index => "str.index"
  | .rstrip => "str.rstrip"
  | .find => "str.find"
theorem slot1 (m : M1) : Slot "str" (nm1 m) (id1 m) := by
  cases m
  · exact F.slot_str_startswith
  · exact F.slot_str_endswith
  · exact F.slot_str_split
  · exact F.slot_str_join
  · exact F.slot_str_index
  · exact F.slot_str_rstrip
  · exact F.slot_str_find
theorem type1 (m : M1) : typeOf (.builtin (id1 m)) = pure (.type "method_descriptor") := by
  cases m
  · exact F.type_str_startswith
  · exact F.type_str_endswith
  · exact F.type_str_split
  · exact F.type_str_join
  · exact F.type_str_index
  · exact F.type_str_rstrip
  · exact F.type_str_find
def rM1 (K : PySem.W.Frag) (m : M1) : V → List V → Hp → VK → Prop := fun x xs H Q => ∃ G d y e r, Same G H ∧ xs = [y] ∧ RW K H G x d ∧ RW K H G y e ∧ m1D m d e = .ok r ∧ Fin K H G Q r
/-- s.split(t) as a list of one's own -/
def rSplitN (K : PySem.W.Frag) : V → List V → Hp → VK → Prop := fun x xs H Q => ∃ G a b, Same G H ∧ x = .str a ∧ xs = [.str b] ∧ b.length ≠ 0 ∧ a.length ≤ 1000000 ∧ New K H G Q ((Txt.split a b).map PyData.str)
theorem mt_splitN : MtR X "str.split" (rSplitN X.K) := by
  intro pins s σ H x xs v us Q I rx rs h
  obtain ⟨G, a, b, sm, rfl, rfl, hb, hz, fin⟩ := h
  refine mt_split pins s σ H _ _ v us Q I rx rs ⟨a, b, rfl, rfl, by simpa using hb, by rw [sizeLine_eq]; omega, fun p np => ?_⟩
  exact fin.lst sm (Reps.strs _) p np
theorem mt1_data (m : M1) : MtR X (id1 m) (rM1 X.K m) := by
  intro pins s σ H x xs v us Q I rx rs h
  obtain ⟨G, d, y, e, r, sm, rfl, rd, re, hf, fin⟩ := h
  cases m with
  | startswith =>
    cases d <;> cases e <;> simp only [m1D] at hf <;> try (cases hf; done)
    cases hf
    have := rd.str; subst this
    have := re.str; subst this
    exact mt_startswith pins s σ H _ _ v us Q I rx rs ⟨_, _, rfl, rfl, fin.flat sm (.bl _)⟩
  | endswith =>
    cases d <;> cases e <;> simp only [m1D] at hf <;> try (cases hf; done)
    cases hf
    have := rd.str; subst this
    have := re.str; subst this
    exact mt_endswith pins s σ H _ _ v us Q I rx rs ⟨_, _, rfl, rfl, fin.flat sm (.bl _)⟩
  | split =>
    cases d <;> cases e <;> simp only [m1D] at hf <;> try (cases hf; done)
    split at hf <;> cases hf
    rename_i hz
    have := rd.str; subst this
    have := re.str; subst this
    exact mt_splitN pins s σ H _ _ v us Q I rx rs ⟨G, _, _, sm, rfl, rfl, hz.1, hz.2, New.still fin⟩
  | index =>
    cases d <;> cases e <;> simp only [m1D] at hf <;> try (cases hf; done)
    split at hf <;> cases hf
    rename_i k rest hk
    have := rd.str; subst this
    have := re.str; subst this
    obtain ⟨t, rfl⟩ := rx
    obtain ⟨u, rfl, ru⟩ := Vals.one rs
    obtain ⟨t2, rfl⟩ := ru
    exact call_gives PySem.F.slot_str_index (typeIs_str _ _ _) PySem.F.entry_str_index
      (PySem.F.args_str_index_2 _ _) (gives_str_index _ _ t t2 k rest hk) ⟨.int (k : Nat), H, I.tok _, ⟨_, rfl⟩, fin.flat sm (.int _)⟩
  | rstrip =>
    cases d <;> cases e <;> simp only [m1D] at hf <;> try (cases hf; done)
    split at hf <;> cases hf
    rename_i hz
    have := rd.str; subst this
    have := re.str; subst this
    exact mt_rstripChars pins s σ H _ _ v us Q I rx rs ⟨_, _, rfl, rfl, le_line hz, fin.flat sm (.str _)⟩
  | find =>
    cases d <;> cases e <;> simp only [m1D] at hf <;> try (cases hf; done)
    cases hf
    have := rd.str; subst this
    have := re.str; subst this
    exact mt_find pins s σ H _ _ v us Q I rx rs ⟨_, _, rfl, rfl, fin.flat sm (.int _)⟩
  | join =>
    have go : ∀ (a : Str) (ds : List Dat) (vs : List V) (p : Addr), joinD a ds = .ok r → x = .str a → y = .ref p → Reps X.K G vs ds → (SqL X.K H p vs ∨ SqT X.K H p vs) → wpAny (model X.prog X.w) X.A (call (.builtin "str.join") (v :: us)) (EP X pins σ Q) X.xe s := by
      intro a ds vs p hj ex ey rr hq
      subst ex ey
      unfold joinD at hj
      split at hj
      · rename_i ys hys
        split at hj <;> cases hj
        rename_i hz
        have e1 := strsD_some hys
        subst e1
        have e2 := rr.strs_inv
        subst e2
        exact mt_join pins s σ H _ _ v us Q I rx rs ⟨a, p, ys, rfl, rfl, hq, by omega, fin.flat sm (.str _)⟩
      · cases hj
    cases d <;> cases e <;> simp only [m1D] at hf <;> try (cases hf; done)
    · have ex := rd.str
      obtain ⟨p, vs, ey, q, rr⟩ := re.list sm
      exact go _ _ vs p hf ex ey rr (.inl q)
    · have ex := rd.str
      obtain ⟨p, vs, ey, q, rr⟩ := re.tup sm
      exact go _ _ vs p hf ex ey rr (.inr (sqT_keep sm q))
end
end NW
end

section
set_option maxHeartbeats 4000000
/-! The text against its terms; each term's reading holds of the text. -/
namespace NW
open PySem PySem.Spec PyProof.Rows L2

/-! ### the look at the text -/
structure Sig where
  nm : Str
  ln : List Bool
  /-- 0: a value that stays; 2: a list of the caller's own; 3: a value whose parts that are lists are new -/
  fr : Nat
  /-- the last parameter's name, where it is told by a keyword -/
  kw : Option Str
  /-- what it raises has no context -/
  cl : Bool
structure Tx where
  fns : List Sig
  cons : List Str
  exs : List Str
  /-- classes made with a row -/
  exr : List Str
  /-- what the def at hand raises has no context -/
  cl : Bool
def Tx.at_ (T : Tx) (b : Bool) : Tx := { T with cl := b }
def plainE : Expr → Bool
  | .Starred _ _ => false
  | .Set _ _ _ => false
  | .Slice _ _ _ _ => false
  | _ => true
/-- the receiver of a method -/
def baseE : Expr → Bool
  | .Call _ [] _ _ => false
  | _ => true
/-- whose truth is its value's -/
def tstE : Expr → Bool
  | .UnaryOp _ _ _ => false
  | .BoolOp _ _ _ => false
  | .IfExp _ _ _ _ => false
  | .Compare _ _ _ _ => false
  | _ => true
def visB (sc : Scope) (x : Str) : Bool := match sc.names.lookup x with
  | some .local => true
  | some .cell => true
  | some .free => true
  | _ => false
def locB (sc : Scope) (x : Str) : Bool := decide (sc.names.lookup x = some .local)
def glB (sc : Scope) (x : Str) : Bool := decide (sc.names.lookup x = some .globalImplicit)
def okN (x : Str) : Bool := !(x == ("__debug__" : Str)) && !(x == ("__classdict__" : Str)) && !(x == ("__name__" : Str))
def isTv : E → Bool
  | .tv _ => true
  | _ => false
def isNo : E → Bool
  | .no => true
  | _ => false
/-- what kind of value a term gives: 0 one that stays, 1 a lent one, 2 a new list -/
def kd (T : Tx) : E → Nat
  | .tv _ => 1
  | .lst _ => 2
  | .lc _ _ _ _ _ => 2
  | .bi .list _ => 2
  | .bi .sorted _ => 2
  | .m1 .split _ _ => 2
  | .cal k _ => match T.fns[k]? with
    | some sg => sg.fr
    | none => 0
  | _ => 0
/-- no test: True -/
def tyes : E → Bool
  | .bl b => b
  | _ => false
def isIfe : E → Bool
  | .ife _ _ _ => true
  | _ => false
/-- a target -/
def okG (N : List Str) (sc : Scope) : Tg → Expr → Bool
  | .nm i, .Name x _ => decide (N[i]? = some x) && locB sc x
  | .tp is, .Tuple es _ _ => decide (is.length = es.length) && (is.zip es).all fun p => match p.2 with
    | .Name x _ => decide (N[p.1]? = some x) && locB sc x
    | _ => false
  | _, _ => false
def bop (o : BoolOp) : Bool := match o with
  | .And => true
  | .Or => false
def tgIn (own : List Nat) : Tg → Bool
  | .nm i => own.contains i
  | .tp is => is.all own.contains
mutual
def okE (T : Tx) (n : Nat) (N : List Str) (sc : Scope) : E → Expr → Bool
  | .var i, .Name x _ => decide (N[i]? = some x) && visB sc x && okN x
  | .tv i, .Name x _ => decide (N[i]? = some x) && visB sc x && okN x
  | .non, .Constant .none _ _ => true
  | .bl b, .Constant (.bool c) _ _ => b == c
  | .int i, .Constant (.int j) _ _ => i == j
  | .str x, .Constant (.str y) _ _ => decide (x = y)
  | .con k, .Name x _ => decide (T.cons[k]? = some x) && glB sc x && okN x
  | .bin o a b, .BinOp x op y _ => decide (op = opB o) && okE T n N sc a x && okE T n N sc b y
  | .neg a, .UnaryOp .USub x _ => okE T n N sc a x
  | .cmp o a b, .Compare x [op] [y] _ => decide (op = opC o) && plainE y && okE T n N sc a x && okE T n N sc b y
  | .chn o p a b c, .Compare x [op, op'] [y, z] _ => decide (op = opC o) && decide (op' = opC p) && plainE z && okE T n N sc a x && okE T n N sc b y && okE T n N sc c z
  | .and a b, .BoolOp .And (x :: y :: r) pos => !isIfe a && !isIfe b && kd T a != 1 && kd T b != 1 && okE T n N sc a x && (match r with
    | [] => okE T n N sc b y
    | r => okE T n N sc b (.BoolOp .And (y :: r) pos))
  | .or a b, .BoolOp .Or (x :: y :: r) pos => !isIfe a && !isIfe b && kd T a != 1 && kd T b != 1 && okE T n N sc a x && (match r with
    | [] => okE T n N sc b y
    | r => okE T n N sc b (.BoolOp .Or (y :: r) pos))
  | .not a, .UnaryOp .Not x _ => !isIfe a && okE T n N sc a x
  | .ife c a b, .IfExp z x y _ => !isIfe c && okE T n N sc c z && okE T n N sc a x && okE T n N sc b y && kd T a != 1 && kd T b != 1
  | .ix a i, .Subscript x y _ => plainE y && okE T n N sc a x && okE T n N sc i y
  | .sl a lo hi, .Subscript x (.Slice l h .none _) _ => okE T n N sc a x && (match l with
      | none => isNo lo
      | some l => !isNo lo && okE T n N sc lo l) && (match h with
      | none => isNo hi
      | some h => !isNo hi && okE T n N sc hi h)
  | .tup es, .Tuple xs _ _ => okEs T n N sc [] es xs
  | .lst es, .List xs _ => okEs T n N sc [] es xs
  | .cal k es, .Call (.Name x _) (y :: ys) [] _ => (match T.fns[k]? with
    | some sg => decide (sg.nm = x) && decide (k < n) && glB sc x && okN x && decide (sg.ln.length = (y :: ys).length) && decide (sg.kw = none) && (!T.cl || sg.cl) && okEs T n N sc sg.ln es (y :: ys)
    | none => false)
  | .calk k es w e, .Call (.Name x _) (y :: ys) [⟨a, z, _⟩] _ => (match T.fns[k]? with
    | some sg => decide (sg.nm = x) && decide (k < n) && glB sc x && okN x && decide (sg.ln.length = (y :: ys).length + 1) && decide (sg.kw = some w) && decide (a = some w) && (sg.fr == 0) && (!T.cl || sg.cl) && okEs T n N sc [] es (y :: ys) && plainE z && okE T n N sc e z && kd T e != 1
    | none => false)
  | .bi f es, .Call (.Name x _) (y :: ys) [] _ => decide (nmB f = x) && glB sc x && okN x && okEs T n N sc [true, true] es (y :: ys)
  | .isi t e, .Call (.Name f _) [x, .Name y _] [] _ => decide (f = ("isinstance" : Str)) && decide (y = PySem.Str.ofString (nmT t)) && glB sc f && glB sc y && okN y && plainE x && okE T n N sc e x
  | .nrw c e, .Attribute (.Call (.Name x _) [y] [] _) a _ => decide (x = c) && decide (a = ("row" : Str)) && glB sc c && okN c && T.exr.contains c && decide (2 ≤ n) && plainE y && (kd T e != 1) && okE T n N sc e y
  | .m0 m o, .Call (.Attribute x f apos) [] [] pos => decide (f = nm0 m) && baseE x && (apos.endLine == pos.line) && okE T n N sc o x
  | .m1 m o a, .Call (.Attribute x f apos) [y] [] pos => decide (f = nm1 m) && baseE x && plainE y && (apos.endLine == pos.line) && okE T n N sc o x && okE T n N sc a y
  | .lc own tg it tt elt, .ListComp x [⟨g, y, ifs, asy⟩] scope _ => decide (asy = 0) && blkC N sc scope (own.map fun i => (N.getD i "", i)) && tgIn own tg && plainE y && okI T n N sc it y && okG N (relS scope sc) tg g && kd T elt != 1 &&
      (match ifs with
      | [] => tyes tt
      | [c] => !isIfe tt && okE T n N (relS scope sc) tt c
      | _ => false) && okE T n N (relS scope sc) elt x
  | _, _ => false
def okEs (T : Tx) (n : Nat) (N : List Str) (sc : Scope) : List Bool → Es → List Expr → Bool
  | _, .nil, [] => true
  | ws, .cons e r, x :: xs => plainE x && okE T n N sc e x && (kd T e != 1 || ws.headD false) && okEs T n N sc ws.tail r xs
  | _, _, _ => false
def okI (T : Tx) (n : Nat) (N : List Str) (sc : Scope) : It → Expr → Bool
  | .seq e, x => okE T n N sc e x && kd T e != 1
  | .lent i, .Name x _ => decide (N[i]? = some x) && visB sc x && okN x
  | .own i, .Name x _ => decide (N[i]? = some x) && visB sc x && okN x
  | .rng1 a, .Call (.Name f _) [x] [] _ => decide (f = ("range" : Str)) && glB sc f && plainE x && okE T n N sc a x
  | .rng2 a b, .Call (.Name f _) [x, y] [] _ => decide (f = ("range" : Str)) && glB sc f && plainE x && plainE y && okE T n N sc a x && okE T n N sc b y
  | _, _ => false
end

/-! ### readings -/
/-- a slot's thing: B what stood from the start, H all, G what stays as it is -/
def SlR (K : PySem.W.Frag) (B H G : Hp) : Sl → Option V → Prop
  | .un, _ => True
  | .fz d, o => ∃ v, o = some v ∧ Rep K G v d
  | .ow ds, o => ∃ a vs, o = some (.ref a) ∧ H a = some (.lst vs) ∧ G a = none ∧ Reps K G vs ds
  | .ln ds, o => ∃ a vs, o = some (.ref a) ∧ SqL K B a vs ∧ Reps K G vs ds
  | .ex a dx _ x, o => o = some (.ref a) ∧ (match x with
    | none => dx = none
    | some d => ∃ b v, dx = some b ∧ H b = some (.xd [(("row" : Str), v)]) ∧ Rep K G v d)
structure ER (K : PySem.W.Frag) (B : Hp) (ρ : En) (σ : L2.St) (H G : Hp) : Prop where
  bas : Same B H
  sub : Same G H
  len : ρ.length = σ.length
  at_ : ∀ (i : Nat) (s : Sl), ρ[i]? = some s → ∃ o, σ[i]? = some o ∧ SlR K B H G s o
theorem SlR.ext {K : PySem.W.Frag} {B H G H' G' : Hp} (x : Ext H G H' G') {s : Sl} {o : Option V} (r : SlR K B H G s o) : SlR K B H' G' s o := by
  cases s with
  | un => trivial
  | fz d => obtain ⟨v, e, r⟩ := r; exact ⟨v, e, r.mono x.stl⟩
  | ow ds =>
    obtain ⟨a, vs, e, h, g, r⟩ := r
    refine ⟨a, vs, e, x.all _ _ h, ?_, r.mono x.stl⟩
    cases q : G' a with
    | none => rfl
    | some o =>
      rcases x.new a (by rw [q]; simp) with z | z
      · exact absurd g z
      · rw [z] at h; cases h
  | ln ds => obtain ⟨a, vs, e, h, r⟩ := r; exact ⟨a, vs, e, h, r.mono x.stl⟩
  | ex a dx c y =>
    obtain ⟨e, r⟩ := r
    refine ⟨e, ?_⟩
    cases y with
    | none => exact r
    | some d => obtain ⟨b, v, e1, e2, e3⟩ := r; exact ⟨b, v, e1, x.all _ _ e2, e3.mono x.stl⟩
theorem ER.ext {K : PySem.W.Frag} {B : Hp} {ρ : En} {σ : L2.St} {H G H' G' : Hp} (e : ER K B ρ σ H G) (x : Ext H G H' G') : ER K B ρ σ H' G' :=
  ⟨e.bas.trans x.all, x.sub, e.len, fun i s h => let ⟨o, h1, h2⟩ := e.at_ i s h; ⟨o, h1, h2.ext x⟩⟩
/-- an exception: its class by its name, what it holds -/
def XR (K : PySem.W.Frag) (mg : Str → Option Value) (H G : Hp) (cls : Value) (dx : Option Addr) (c : Str) (x : Option Dat) : Prop :=
  (∃ C, mg c = some (.ref C) ∧ cls = .ref C) ∧ (match x with
    | none => dx = none
    | some d => ∃ a v, dx = some a ∧ H a = some (.xd [(("row" : Str), v)]) ∧ Rep K G v d)
/-- a list that is new since H -/
def FreshL (K : PySem.W.Frag) (H G' : Hp) (v : V) (d : Dat) : Prop := ∀ ds, d = .list ds → ∃ a vs, v = .ref a ∧ H a = none ∧ G' a = some (.lst vs) ∧ Reps K G' vs ds
/-- a tuple whose parts that are lists are new since H -/
def FreshC (K : PySem.W.Frag) (H G' : Hp) (v : V) (d : Dat) : Prop := ∀ ds, d = .tuple ds → ∃ t vs, v = .ref t ∧ SqT K G' t vs ∧ vs.length = ds.length ∧ ∀ (i : Nat) (u : V) (e : Dat), vs[i]? = some u → ds[i]? = some e → FreshL K H G' u e
def RK (K : PySem.W.Frag) (k : Nat) (H H' G' : Hp) (v : V) (d : Dat) : Prop := match k with
  | 0 => Rep K G' v d
  | 1 => RW K H' G' v d
  | 2 => ∃ a vs ds, v = .ref a ∧ d = .list ds ∧ H a = none ∧ G' a = none ∧ H' a = some (.lst vs) ∧ Reps K G' vs ds
  | _ => Rep K G' v d ∧ FreshC K H G' v d
def EndE (X : Cx) (W : WX) (k : Nat) (σ : L2.St) (H G : Hp) (Q : VK) : Res Dat → Prop
  | .ok d => ∀ v H' G', Ext H G H' G' → RK X.K k H H' G' v d → Q v H'
  | .exc c x => ∀ cls dx H' G', Ext H G H' G' → XR X.K X.mg H' G' cls dx c x → W cls dx σ H'
  | .bad => False
def tK (X : Cx) (P : Pg) (W : WX) (k : Nat) (e : E) : TE := fun σ H Q => ∃ B G ρ, ER X.K B ρ σ H G ∧ EndE X W k σ H G Q (ev P e ρ)
def EndT (X : Cx) (W : WX) (σ : L2.St) (H G : Hp) (Q : Bool → Hp → Prop) : Res Bool → Prop
  | .ok b => ∀ H' G', Ext H G H' G' → Q b H'
  | .exc c x => ∀ cls dx H' G', Ext H G H' G' → XR X.K X.mg H' G' cls dx c x → W cls dx σ H'
  | .bad => False
def tT (X : Cx) (P : Pg) (W : WX) (e : E) : TT := fun σ H Q => ∃ B G ρ, ER X.K B ρ σ H G ∧ EndT X W σ H G Q (ev P e ρ >>= fun d => truD d)
/-- arguments: lent where told -/
inductive RAs (K : PySem.W.Frag) (H G : Hp) : List Bool → List V → List Dat → Prop
  | nil {ws : List Bool} : RAs K H G ws [] []
  | cons {ws : List Bool} {v : V} {vs : List V} {d : Dat} {ds : List Dat} : (if ws.headD false = true then RW K H G v d else Rep K G v d) → RAs K H G ws.tail vs ds → RAs K H G ws (v :: vs) (d :: ds)
def EndA (X : Cx) (W : WX) (ws : List Bool) (σ : L2.St) (H G : Hp) (Q : List V → Hp → Prop) : Res (List Dat) → Prop
  | .ok ds => ∀ vs H' G', Ext H G H' G' → RAs X.K H' G' ws vs ds → Q vs H'
  | .exc c x => ∀ cls dx H' G', Ext H G H' G' → XR X.K X.mg H' G' cls dx c x → W cls dx σ H'
  | .bad => False
def tA (X : Cx) (P : Pg) (W : WX) (ws : List Bool) (es : Es) : TA := fun σ H Q => ∃ B G ρ, ER X.K B ρ σ H G ∧ EndA X W ws σ H G Q (evs P es ρ)
/-- what a walk yields: xs, whatever comes to what stands -/
structure Ylds (K : PySem.W.Frag) (B G0 : Hp) (J : L2.It) (xs : List Dat) : Prop where
  go : ∀ (i : Nat) (H G : Hp), i < xs.length → Same B H → Same G0 G → Same G H → J.go i H
  stop : ∀ (H G : Hp), Same B H → Same G0 G → Same G H → J.stop xs.length H
  yld : ∀ (i : Nat) (H G : Hp) (x : V) (H' : Hp), i < xs.length → Same B H → Same G0 G → Same G H → J.yld i H x H' → ∃ d G', xs[i]? = some d ∧ Ext H G H' G' ∧ Rep K G' x d
def EndI (X : Cx) (W : WX) (B : Hp) (σ : L2.St) (H G : Hp) (R : L2.It → Hp → Prop) : Res (List Dat) → Prop
  | .ok xs => ∀ J H' G', Ext H G H' G' → Ylds X.K B G' J xs → R J H'
  | .exc c x => ∀ cls dx H' G', Ext H G H' G' → XR X.K X.mg H' G' cls dx c x → W cls dx σ H'
  | .bad => False
def isOwn : It → Bool
  | .own _ => true
  | _ => false
/-- what an iterable's things stand on -/
def bI (it : It) (B H : Hp) : Hp := match it with
  | .own _ => H
  | _ => B
theorem bI_no {it : It} (h : isOwn it = false) (B H : Hp) : bI it B H = B := by cases it <;> first | rfl | cases h
theorem bI_self (it : It) (H : Hp) : bI it H H = H := by cases it <;> rfl
def tI (X : Cx) (P : Pg) (W : WX) (it : It) : TI := fun σ H R => ∃ B G ρ, ER X.K B ρ σ H G ∧ EndI X W (bI it B H) σ H G R (evI P it ρ)
/-- .. on all that stands now -/
theorem ER.re {K : PySem.W.Frag} {B : Hp} {ρ : En} {σ : L2.St} {H G : Hp} (e : ER K B ρ σ H G) : ER K H ρ σ H G :=
  ⟨Same.refl H, e.sub, e.len, fun i s h => by
    obtain ⟨o, h1, h2⟩ := e.at_ i s h
    refine ⟨o, h1, ?_⟩
    cases s with
    | ln ds => obtain ⟨a, vs, e1, e2, e3⟩ := h2; exact ⟨a, vs, e1, sqL_keep e.bas e2, e3⟩
    | un => exact h2
    | fz d => exact h2
    | ow ds => exact h2
    | ex a dx c y => exact h2⟩
theorem RK.weak {K : PySem.W.Frag} {k : Nat} {H H' G' : Hp} {v : V} {d : Dat} (r : RK K k H H' G' v d) : RW K H' G' v d := by
  match k, r with
  | 0, r => exact .st r
  | 1, r => exact r
  | 2, ⟨a, vs, ds, e1, e2, _, _, h, q⟩ => subst e1; subst e2; exact .wk (SqL.of h) q
  | k + 3, r => exact .st r.1
theorem PE.imp {X : Cx} {e : Expr} {t t' : TE} (h : PE X e t) (i : ∀ σ H Q, t' σ H Q → t σ H Q) : PE X e t' := ⟨fun pins s σ H Q I q => h.run pins s σ H Q I (i σ H Q q)⟩
theorem PT.imp {X : Cx} {e : Expr} {t t' : TT} (h : PT X e t) (i : ∀ σ H Q, t' σ H Q → t σ H Q) : PT X e t' := ⟨fun pins s σ H Q I q => h.run pins s σ H Q I (i σ H Q q)⟩
theorem PW.imp {X : Cx} {e : Expr} {t t' : TT} (h : PW X e t) (i : ∀ σ H Q, t' σ H Q → t σ H Q) : PW X e t' := ⟨fun w pins s σ H Q I q => h.run w pins s σ H Q I (i σ H Q q)⟩
theorem PA.imp {X : Cx} {e : List Expr} {t t' : TA} (h : PA X e t) (i : ∀ σ H Q, t' σ H Q → t σ H Q) : PA X e t' := ⟨fun pos pins s σ H Q I q => h.run pos pins s σ H Q I (i σ H Q q)⟩
theorem Fin.of {X : Cx} {W : WX} {σ : L2.St} {H G : Hp} {Q : VK} {d : Dat} (h : EndE X W 0 σ H G Q (.ok d)) : Fin X.K H G Q d := h
/-- what a term gives may be read -/
theorem tK_weak {X : Cx} {P : Pg} {W : WX} {k : Nat} {e : E} {σ : L2.St} {H : Hp} {Q : VK} (h : tK X P W 1 e σ H Q) : tK X P W k e σ H Q := by
  obtain ⟨B, G, ρ, er, h⟩ := h
  refine ⟨B, G, ρ, er, ?_⟩
  cases q : ev P e ρ with
  | ok d => rw [q] at h; exact fun v H' G' x r => h v H' G' x r.weak
  | exc c x => rw [q] at h; exact h
  | bad => rw [q] at h; exact h
/-- .. and kept, where it is not lent -/
theorem tK_still {X : Cx} {P : Pg} {W : WX} {k : Nat} {e : E} (hk : k ≠ 1) {σ : L2.St} {H : Hp} {Q : VK} (h : tK X P W 0 e σ H Q) : tK X P W k e σ H Q := by
  obtain ⟨B, G, ρ, er, h⟩ := h
  refine ⟨B, G, ρ, er, ?_⟩
  cases q : ev P e ρ with
  | ok d =>
    rw [q] at h
    match k, hk with
    | 0, _ => exact h
    | 2, _ =>
      intro v H' G' x r
      obtain ⟨a, vs, ds, rfl, rfl, na, ga, ha, rr⟩ := r
      exact New.still (Fin.of h) a vs H' G' x na ga ha rr
    | k + 3, _ => exact fun v H' G' x r => h v H' G' x r.1
  | exc c x => rw [q] at h; exact h
  | bad => rw [q] at h; exact h

/-! ### what the context knows -/
/-- a def's promise, by its meaning over data -/
def spD (K : PySem.W.Frag) (mg : Str → Option Value) (sg : Sig) (F : List Dat → Res Dat) : Sp := fun vs H Q E => ∃ G ds, Same G H ∧ vs.length = sg.ln.length ∧ RAs K H G sg.ln vs ds ∧ (match F ds with
  | .ok d => ∀ v H' G', Ext H G H' G' → RK K sg.fr H H' G' v d → Q v H'
  | .exc c x => ∀ cls dx H' G', Ext H G H' G' → XR K mg H' G' cls dx c x → E cls dx H'
  | .bad => False)
def bltN : List Str := ["len", "min", "max", "int", "str", "ord", "tuple", "list", "isinstance", "bool", "range", "any", "all", "sorted"]
/-- what an exception in the air may be -/
def TkB (b : Bool) (X : Cx) (W : WX) : Prop := if b = true then L2N.Takes X W else Takes X W
def CXB (b : Bool) (P : Program) (w : World) : CXT := if b = true then L2N.CX P w else L2.CX P w
theorem sky_weak {B : Heap} {l : List Env} {a L : Addr} {Z Z' : Obj → Prop} {h : Heap} (z : ∀ o, Z o → Z' o) (s : Sky B l a Z L h) : Sky B l a Z' L h := by
  rcases s with ⟨h1, h2, h3, oe, vs, h4, h5, h6⟩ | s | s
  · exact .inl ⟨h1, h2, h3, oe, vs, h4, z _ h5, h6⟩
  · exact .inr (.inl (L2H.flyingZ_imp z s))
  · exact .inr (.inr ⟨s.1, s.2.1, s.2.2.1, L2H.tracedZ_imp z s.2.2.2⟩)
theorem takesN {X : Cx} {W : WX} (tk : Takes X W) : L2N.Takes X W := fun u s' ⟨a, B, sI, pins, σ, H, cls, d, e, I, nb, up, sky, na, os, ag, w⟩ =>
  tk u s' ⟨a, B, sI, pins, σ, H, cls, d, e, I, nb, up, sky_weak (fun _ z => z.zc) sky, na, os, ag, w⟩
theorem tkb0 (b : Bool) {X : Cx} : TkB b X (fun _ _ _ _ => False) := by
  cases b
  · exact takes0
  · exact takesN takes0
theorem passB {b c : Bool} {X : Cx} {W : WX} (tk : TkB b X W) (h : (!b || c) = true) (σ : L2.St) : PassesAt (CXB c X.prog X.w) X σ (WE W σ) := by
  cases c
  · cases b
    · exact passAt tk σ
    · cases h
  · cases b
    · exact L2N.passAt (takesN tk) σ
    · exact L2N.passAt tk σ
/-- __init__(self, row): self.row = row -/
def spInit (K : PySem.W.Frag) : Sp := fun vs H Q _ => ∃ (a C : Addr) (v : V), vs = [.ref a, v] ∧ OexC K C ∧ PySem.W.findIn K (.ref C) "row" = some none ∧ H a = some (exo a C none) ∧
  ∀ dx, H dx = none → dx ≠ a → Q .non (upd (upd H dx (exd dx [(("row" : Str), v)])) a (exo a C (some dx)))
/-- a class that is made with a row -/
def RwK (P : Program) (w_ : World) (K : PySem.W.Frag) (mg : Str → Option Value) (base : Heap) (C : Addr) : Prop := ∃ (fI : Addr) (fd : FuncData), OexC K C ∧ PySem.W.findIn K (.ref C) "row" = some none ∧
  PySem.W.findIn K (.ref C) "__init__" = some (some (.ref fI)) ∧ PySem.W.typeIn K (.ref fI) = some (.type "function") ∧ FnOk P w_ K mg base (L2.CX P w_) 1 fI fd ["self", "row"] (spInit K) ∧
  L2H.FnH P w_ K mg base (L2.CX P w_) 1 fI fd ["self", "row"] (spInit K) ∧ Binds K fd ["self", "row"] [] ∧ XfC K C
/-- a def that may be called as sg tells; what lacks stands in its defaults -/
def FnX (P : Program) (w_ : World) (K : PySem.W.Frag) (mg : Str → Option Value) (base : Heap) (n : Nat) (sg : Sig) (F : List Dat → Res Dat) : Prop :=
  match sg.kw with
  | none => ∃ (f : Addr) (fd : FuncData) (ps : List Str) (ds : List Value) (dvs : List V) (sp : Sp), mg sg.nm = some (.ref f) ∧ PySem.W.keepIn K (.ref f) = true ∧ FnOk P w_ K mg base (CXB sg.cl P w_) n f fd ps sp ∧ Binds K fd ps ds ∧ Vals dvs ds ∧ ∀ vs H Q E, spD K mg sg F vs H Q E → sp (vs ++ dvs) H Q E
  | some w => ∃ (f : Addr) (fd : FuncData) (ps : List Str) (g : List Value → List Value → List Value) (gV : List V → List V → List V) (sp : Sp), mg sg.nm = some (.ref f) ∧ PySem.W.keepIn K (.ref f) = true ∧ FnOk P w_ K mg base (CXB sg.cl P w_) n f fd ps sp ∧ KBn K fd ps (sg.ln.length - 1) [w] g gV ∧ sg.ln = List.replicate sg.ln.length false ∧
      ∀ vs z H Q E, spD K mg sg F (vs ++ [z]) H Q E → sp (gV vs [z]) H Q E
/-- a class of one's own under ValueError, without an __init__ of its own -/
structure ExK (K : PySem.W.Frag) (C : Addr) : Prop where
  exc : PySem.W.excIn K C He.veBase "ValueError.__new__" = true
  keep : PySem.W.keepIn K (.ref C) = true
  sub : PySem.W.subIn K (.ref C) (.type "BaseException") = some true
  ty : PySem.W.typeIn K (.ref C) = some (.type "type")
/-- what isinstance says of an exception of class c -/
def IssK (K : PySem.W.Frag) (mg : Str → Option Value) (c c' : Str) (b : Bool) : Prop := ∃ C, mg c = some (.ref C) ∧ ExcC K C ∧ PySem.W.findIn K (.ref C) "row" = some none ∧
  ((∃ C', mg c' = some (.ref C') ∧ PySem.W.kitOne K (.ref C) (.ref C') = some b) ∨ (c' = "ValueError" ∧ mg c' = none ∧ PySem.W.kitOne K (.ref C) (.type "ValueError") = some b))
structure Gd (X : Cx) (T : Tx) (P : Pg) (n : Nat) (W : WX) : Prop where
  calm : X.calm = true
  nd : X.N.Nodup
  room : Room n X.A
  tk : TkB T.cl X W
  fns : ∀ k sg, k < n → T.fns[k]? = some sg → FnX X.prog X.w X.K X.mg X.base n sg (P.F k)
  cons : ∀ k x, T.cons[k]? = some x → ∃ u v, X.mg x = some u ∧ RelV v u ∧ ∀ G, Rep X.K G v (P.C k)
  blt : ∀ b ∈ bltN, X.mg b = none
  exs : ∀ c ∈ T.exs, ∃ C, X.mg c = some (.ref C) ∧ ExK X.K C
  exm : ∀ c c' b, P.X c c' = some b → ∃ C C', X.mg c = some (.ref C) ∧ X.mg c' = some (.ref C') ∧ PySem.W.exmOne X.K (.ref C) (.ref C') = some b
  iss : ∀ c c' b, P.I c c' = some b → IssK X.K X.mg c c' b
  exr : ∀ c ∈ T.exr, ∃ C, X.mg c = some (.ref C) ∧ RwK X.prog X.w X.K X.mg X.base C
/-- .. within a comprehension -/
theorem Gd.blk {X : Cx} {T : Tx} {P : Pg} {n : Nat} {W : WX} (g : Gd X T P n W) (s : Shared) (H : Hp) (scope : Scope) (cenv : Env) (fp : List Addr) : Gd (X.blk s H scope cenv fp) T P n (fun _ _ _ _ => False) :=
  ⟨g.calm, g.nd, g.room, tkb0 _, g.fns, g.cons, g.blt, g.exs, g.exm, g.iss, g.exr⟩
theorem vis_of {X : Cx} {x : Str} (h : visB X.env.scope x = true) : Vis X.env.scope x := by
  unfold visB at h
  split at h
  · rename_i e; exact .inl e
  · rename_i e; exact .inr (.inl e)
  · rename_i e; exact .inr (.inr e)
  · cases h
theorem okN_d {x : Str} (h : okN x = true) : (x == ("__debug__" : Str)) = false := by
  unfold okN at h
  simp only [Bool.and_eq_true, Bool.not_eq_true'] at h
  exact h.1.1
theorem okN_c {x : Str} (h : okN x = true) : (x == ("__classdict__" : Str)) = false := by
  unfold okN at h
  simp only [Bool.and_eq_true, Bool.not_eq_true'] at h
  exact h.1.2
theorem okN_n {x : Str} (h : okN x = true) : x ≠ "__name__" := by
  unfold okN at h
  simp only [Bool.and_eq_true, Bool.not_eq_true'] at h
  intro e
  have := h.2
  rw [e] at this
  simp at this
theorem star_cons {x : Expr} {xs : List Expr} {env : Env} (h : plainE x = true) : starEach (x :: xs) env = (false, eval x env) :: starEach xs env := by
  cases x <;> first | rfl | (simp [plainE] at h)
/-- a list of plain ones -/
def plains (xs : List Expr) : Bool := xs.all plainE
theorem no_star {env : Env} {pos : Pos} : ∀ {xs : List Expr}, plains xs = true → (backTo pos (starEach xs env)).any (·.1) = false
  | [], _ => rfl
  | x :: xs, h => by
    unfold plains at h
    rw [List.all_cons, Bool.and_eq_true] at h
    rw [star_cons h.1]
    show (false || (backTo pos (starEach xs env)).any (·.1)) = false
    rw [no_star (xs := xs) h.2]
    rfl
theorem okEs_plain {T : Tx} {n : Nat} {N : List Str} {sc : Scope} : ∀ {es : Es} {ws : List Bool} {xs : List Expr}, okEs T n N sc ws es xs = true → plains xs = true
  | .nil, _, [], _ => rfl
  | .nil, _, _ :: _, h => by simp [okEs] at h
  | .cons e r, _, [], h => by simp [okEs] at h
  | .cons e r, ws, x :: xs, h => by
    simp only [okEs, Bool.and_eq_true] at h
    show (plainE x && xs.all plainE) = true
    rw [h.1.1.1, Bool.true_and]
    exact okEs_plain (es := r) h.2
theorem plain_ix {b : Expr} (h : plainE b = true) : PlainIx b := fun o i => by cases b <;> first | rfl | (simp [plainE] at h)
theorem plain_mark {b : Expr} {op : CmpOp} (h : plainE b = true) : behindInMarks op b = false := by cases b <;> first | rfl | (simp [plainE] at h)
theorem plain_fold {b : Expr} {env : Env} (h : plainE b = true) : ∀ x, foldedSetIterable b env x = pure x := fun x => by cases b <;> first | rfl | (simp [plainE] at h)
theorem base_attr {o : Expr} {f : Str} {env : Env} (h : baseE o = true) : attributeBase o f env (eval o env) = eval o env := by
  cases o <;> first | rfl | skip
  rename_i fn args kws pos
  cases args with
  | nil => simp [baseE] at h
  | cons a r => cases fn <;> rfl
theorem tst_true {a : Expr} {env : Env} (h : tstE a = true) : ∀ whole, isTrue a env whole = (do let v ← whole; standAt a.pos; holding [v] (truthy v)) := fun whole => by
  cases a <;> first | rfl | (simp [tstE] at h)
end NW
end

section
set_option maxHeartbeats 4000000
/-! The terms' readings hold of the text that passes the look. -/
namespace NW
open PySem PySem.Spec PyProof.Rows L2

theorem getS_some {ρ : En} {i : Nat} {s : Sl} (h : getS ρ i = s) (n : s ≠ .un) : ρ[i]? = some s := by
  unfold getS at h
  rw [List.getD_eq_getElem?_getD] at h
  cases q : ρ[i]? with
  | none => rw [q] at h; exact absurd h.symm n
  | some z => rw [q] at h; simp at h; rw [h]
section
variable {X : Cx} {P : Pg} {W : WX} {σ : L2.St} {H G B : Hp} {ρ : En} {Q : VK} {k : Nat}
theorem RK.on {K : PySem.W.Frag} {H H1 H' G' : Hp} (s : Same H H1) {v : V} {d : Dat} (r : RK K k H1 H' G' v d) : RK K k H H' G' v d := by
  match k, r with
  | 0, r => exact r
  | 1, r => exact r
  | 2, ⟨a, vs, ds, e1, e2, na, q⟩ => exact ⟨a, vs, ds, e1, e2, s.free na, q⟩
  | k + 3, r =>
    refine ⟨r.1, fun ds e => ?_⟩
    obtain ⟨t, vs, e1, e2, e3⟩ := r.2 ds e
    refine ⟨t, vs, e1, e2, e3.1, fun i u w h1 h2 es he => ?_⟩
    obtain ⟨a, us, z1, z2, z3, z4⟩ := e3.2 i u w h1 h2 es he
    exact ⟨a, us, z1, s.free z2, z3, z4⟩
theorem EndE.on {H1 G1 : Hp} (x : Ext H G H1 G1) {r : Res Dat} (h : EndE X W k σ H G Q r) : EndE X W k σ H1 G1 Q r := by
  cases r with
  | ok d => exact fun v H' G' y q => h v H' G' (x.trans y) (q.on x.all)
  | exc c z => exact fun cls dx H' G' y q => h cls dx H' G' (x.trans y) q
  | bad => exact h
theorem EndT.on {H1 G1 : Hp} {Q : Bool → Hp → Prop} (x : Ext H G H1 G1) {r : Res Bool} (h : EndT X W σ H G Q r) : EndT X W σ H1 G1 Q r := by
  cases r with
  | ok d => exact fun H' G' y => h H' G' (x.trans y)
  | exc c z => exact fun cls dx H' G' y q => h cls dx H' G' (x.trans y) q
  | bad => exact h
theorem EndA.on {H1 G1 : Hp} {ws : List Bool} {Q : List V → Hp → Prop} (x : Ext H G H1 G1) {r : Res (List Dat)} (h : EndA X W ws σ H G Q r) : EndA X W ws σ H1 G1 Q r := by
  cases r with
  | ok d => exact fun v H' G' y q => h v H' G' (x.trans y) q
  | exc c z => exact fun cls dx H' G' y q => h cls dx H' G' (x.trans y) q
  | bad => exact h
theorem EndI.on {H1 G1 : Hp} {Q : L2.It → Hp → Prop} (x : Ext H G H1 G1) {r : Res (List Dat)} (h : EndI X W B σ H G Q r) : EndI X W B σ H1 G1 Q r := by
  cases r with
  | ok d => exact fun v H' G' y q => h v H' G' (x.trans y) q
  | exc c z => exact fun cls dx H' G' y q => h cls dx H' G' (x.trans y) q
  | bad => exact h
/-- a term, then what is done with its value -/
theorem bndE {a : E} {f : Dat → Res Dat} {j : Nat} {Q' : VK} (er : ER X.K B ρ σ H G) (h : EndE X W k σ H G Q (ev P a ρ >>= f))
    (c : ∀ d x H1 G1, Ext H G H1 G1 → RK X.K j H H1 G1 x d → ER X.K B ρ σ H1 G1 → EndE X W k σ H1 G1 Q (f d) → Q' x H1) : tK X P W j a σ H Q' := by
  refine ⟨B, G, ρ, er, ?_⟩
  cases q : ev P a ρ with
  | ok d => rw [q] at h; exact fun v H' G' x r => c d v H' G' x r (er.ext x) (h.on x)
  | exc z y => rw [q] at h; exact h
  | bad => rw [q] at h; exact h
theorem bndT {a : E} {f : Dat → Res Bool} {j : Nat} {Q : Bool → Hp → Prop} {Q' : VK} (er : ER X.K B ρ σ H G) (h : EndT X W σ H G Q (ev P a ρ >>= f))
    (c : ∀ d x H1 G1, Ext H G H1 G1 → RK X.K j H H1 G1 x d → ER X.K B ρ σ H1 G1 → EndT X W σ H1 G1 Q (f d) → Q' x H1) : tK X P W j a σ H Q' := by
  refine ⟨B, G, ρ, er, ?_⟩
  cases q : ev P a ρ with
  | ok d => rw [q] at h; exact fun v H' G' x r => c d v H' G' x r (er.ext x) (h.on x)
  | exc z y => rw [q] at h; exact h
  | bad => rw [q] at h; exact h
theorem bndA {a : E} {f : Dat → Res (List Dat)} {ws : List Bool} {j : Nat} {Q : List V → Hp → Prop} {Q' : VK} (er : ER X.K B ρ σ H G) (h : EndA X W ws σ H G Q (ev P a ρ >>= f))
    (c : ∀ d x H1 G1, Ext H G H1 G1 → RK X.K j H H1 G1 x d → ER X.K B ρ σ H1 G1 → EndA X W ws σ H1 G1 Q (f d) → Q' x H1) : tK X P W j a σ H Q' := by
  refine ⟨B, G, ρ, er, ?_⟩
  cases q : ev P a ρ with
  | ok d => rw [q] at h; exact fun v H' G' x r => c d v H' G' x r (er.ext x) (h.on x)
  | exc z y => rw [q] at h; exact h
  | bad => rw [q] at h; exact h
theorem bndI {a : E} {f : Dat → Res (List Dat)} {j : Nat} {Q : L2.It → Hp → Prop} {Q' : VK} (er : ER X.K B ρ σ H G) (h : EndI X W B σ H G Q (ev P a ρ >>= f))
    (c : ∀ d x H1 G1, Ext H G H1 G1 → RK X.K j H H1 G1 x d → ER X.K B ρ σ H1 G1 → EndI X W B σ H1 G1 Q (f d) → Q' x H1) : tK X P W j a σ H Q' := by
  refine ⟨B, G, ρ, er, ?_⟩
  cases q : ev P a ρ with
  | ok d => rw [q] at h; exact fun v H' G' x r => c d v H' G' x r (er.ext x) (h.on x)
  | exc z y => rw [q] at h; exact h
  | bad => rw [q] at h; exact h
/-- arguments, then -/
theorem bndAE {es : Es} {f : List Dat → Res Dat} {ws : List Bool} {Q' : List V → Hp → Prop} (er : ER X.K B ρ σ H G) (h : EndE X W k σ H G Q (evs P es ρ >>= f))
    (c : ∀ ds xs H1 G1, evs P es ρ = .ok ds → Ext H G H1 G1 → RAs X.K H1 G1 ws xs ds → ER X.K B ρ σ H1 G1 → EndE X W k σ H1 G1 Q (f ds) → Q' xs H1) : tA X P W ws es σ H Q' := by
  refine ⟨B, G, ρ, er, ?_⟩
  cases q : evs P es ρ with
  | ok d => rw [q] at h; exact fun v H' G' x r => c d v H' G' q x r (er.ext x) (h.on x)
  | exc z y => rw [q] at h; exact h
  | bad => rw [q] at h; exact h
/-- a test, then -/
theorem bndTE {a : E} {f : Bool → Res Dat} {Q' : Bool → Hp → Prop} (er : ER X.K B ρ σ H G) (h : EndE X W k σ H G Q (ev P a ρ >>= fun d => truD d >>= f))
    (c : ∀ b H1 G1, Ext H G H1 G1 → ER X.K B ρ σ H1 G1 → EndE X W k σ H1 G1 Q (f b) → Q' b H1) : tT X P W a σ H Q' := by
  refine ⟨B, G, ρ, er, ?_⟩
  cases q : ev P a ρ with
  | ok d =>
    rw [q] at h
    simp only [ok_bind] at h ⊢
    cases q2 : truD d with
    | ok b => rw [q2] at h; exact fun H' G' x => c b H' G' x (er.ext x) (h.on x)
    | exc z y => rw [q2] at h; exact h
    | bad => rw [q2] at h; exact h
  | exc z y => rw [q] at h; exact h
  | bad => rw [q] at h; exact h
theorem bndTT {a : E} {f : Bool → Res Bool} {Q : Bool → Hp → Prop} {Q' : Bool → Hp → Prop} (er : ER X.K B ρ σ H G) (h : EndT X W σ H G Q (ev P a ρ >>= fun d => truD d >>= f))
    (c : ∀ b H1 G1, Ext H G H1 G1 → ER X.K B ρ σ H1 G1 → EndT X W σ H1 G1 Q (f b) → Q' b H1) : tT X P W a σ H Q' := by
  refine ⟨B, G, ρ, er, ?_⟩
  cases q : ev P a ρ with
  | ok d =>
    rw [q] at h
    simp only [ok_bind] at h ⊢
    cases q2 : truD d with
    | ok b => rw [q2] at h; exact fun H' G' x => c b H' G' x (er.ext x) (h.on x)
    | exc z y => rw [q2] at h; exact h
    | bad => rw [q2] at h; exact h
  | exc z y => rw [q] at h; exact h
  | bad => rw [q] at h; exact h
theorem EndE.fin {f : Res Dat} (h : EndE X W 0 σ H G Q f) {d : Dat} (e : f = .ok d) : Fin X.K H G Q d := by subst e; exact h
/-- an operation's end: it is defined -/
theorem EndE.op {f : Dat → Res Dat} {d : Dat} (h : EndE X W 0 σ H G Q (f d)) (ne : ∀ c x, f d ≠ .exc c x) : ∃ r, f d = .ok r ∧ Fin X.K H G Q r := by
  cases q : f d with
  | ok r => rw [q] at h; exact ⟨r, rfl, h⟩
  | exc c x => exact absurd q (ne c x)
  | bad => rw [q] at h; exact h.elim
end
theorem bin_ne (o : Bop) (d e : Dat) (c : Str) (x : Option Dat) : binD o d e ≠ .exc c x := by
  intro h
  cases o <;> cases d <;> cases e <;> simp only [binD] at h <;> (try cases h) <;> (split at h <;> cases h)
theorem inB_ne (d e : Dat) (c : Str) (x : Option Dat) : inB d e ≠ .exc c x := by
  intro h
  cases e <;> simp only [inB] at h <;> (try cases h) <;> (try (split at h <;> cases h))
theorem cmp_ne (o : Cop) (d e : Dat) (c : Str) (x : Option Dat) : cmpD o d e ≠ .exc c x := by
  intro h
  cases o with
  | eq => simp only [cmpD] at h; split at h <;> cases h
  | ne => simp only [cmpD] at h; split at h <;> cases h
  | isin => exact inB_ne d e c x h
  | nin =>
    simp only [cmpD] at h
    cases q : inB d e with
    | ok r => rw [q] at h; cases h
    | exc c' x' => exact inB_ne d e c' x' q
    | bad => rw [q] at h; cases h
  | lt => cases d <;> cases e <;> simp only [cmpD] at h <;> cases h
  | le => cases d <;> cases e <;> simp only [cmpD] at h <;> cases h
  | gt => cases d <;> cases e <;> simp only [cmpD] at h <;> cases h
  | ge => cases d <;> cases e <;> simp only [cmpD] at h <;> cases h
  | isN => cases d <;> cases e <;> simp only [cmpD] at h <;> cases h
  | ntN => cases d <;> cases e <;> simp only [cmpD] at h <;> cases h
theorem tru_ne (d : Dat) (c : Str) (x : Option Dat) : truD d ≠ .exc c x := by
  intro h
  cases d <;> simp only [truD] at h <;> (try cases h) <;> (split at h <;> cases h)
theorem ix_ne (d e : Dat) (c : Str) (x : Option Dat) : ixD d e ≠ .exc c x := by
  intro h
  cases d <;> cases e <;> simp only [ixD] at h <;> (try cases h) <;> (split at h <;> (try cases h)) <;> (split at h <;> cases h)
theorem sl_ne (d : Dat) (l u : Option Int) (c : Str) (x : Option Dat) : slD d l u ≠ .exc c x := by
  intro h
  cases d <;> simp only [slD] at h <;> (try cases h) <;> (split at h <;> cases h)
theorem part_ne (d : Dat) (c : Str) (x : Option Dat) : partD d ≠ .exc c x := by
  intro h
  cases d <;> simp only [partD] at h <;> cases h
theorem isi_ne (t : Ty) (d : Dat) (c : Str) (x : Option Dat) : isiD t d ≠ .exc c x := by
  intro h
  cases t <;> cases d <;> simp only [isiD] at h <;> cases h
theorem m0_ne (m : M0) (d : Dat) (c : Str) (x : Option Dat) : m0D m d ≠ .exc c x := by
  intro h
  cases m <;> cases d <;> simp only [m0D] at h <;> (try cases h) <;> (split at h <;> cases h)
theorem join_ne (a : Str) (ds : List Dat) (c : Str) (x : Option Dat) : joinD a ds ≠ .exc c x := by
  intro h
  unfold joinD at h
  split at h
  · split at h <;> cases h
  · cases h
theorem m1_ne (m : M1) (d e : Dat) (c : Str) (x : Option Dat) : m1D m d e ≠ .exc c x := by
  intro h
  cases m with
  | join =>
    cases d <;> cases e <;> simp only [m1D] at h <;> first | (cases h; done) | exact join_ne _ _ _ _ h
  | startswith => cases d <;> cases e <;> simp only [m1D] at h <;> cases h
  | endswith => cases d <;> cases e <;> simp only [m1D] at h <;> cases h
  | split => cases d <;> cases e <;> simp only [m1D] at h <;> (try cases h) <;> (split at h <;> cases h)
  | index => cases d <;> cases e <;> simp only [m1D] at h <;> (try cases h) <;> (split at h <;> cases h)
  | rstrip => cases d <;> cases e <;> simp only [m1D] at h <;> (try cases h) <;> (split at h <;> cases h)
  | find => cases d <;> cases e <;> simp only [m1D] at h <;> cases h
theorem bi_ne (f : Bi) (ds : List Dat) (c : Str) (x : Option Dat) : biD f ds ≠ .exc c x := by
  intro h
  have z : ∀ r : Res Dat, r = .exc c x → (∃ d, r = .ok d) ∨ r = .bad → False := fun r e q => by
    subst e
    rcases q with ⟨d, q⟩ | q <;> cases q
  refine z _ h ?_
  clear h z
  unfold biD anyD allD minD sortD sortND
  split <;> first | exact .inl ⟨_, rfl⟩ | exact .inr rfl | (split <;> first | exact .inl ⟨_, rfl⟩ | exact .inr rfl | (split <;> first | exact .inl ⟨_, rfl⟩ | exact .inr rfl | (split <;> first | exact .inl ⟨_, rfl⟩ | exact .inr rfl)))

section
variable {X : Cx} {T : Tx} {P : Pg} {n : Nat} {W : WX} {x y z : Expr} {pos : Pos} {a b c : E} {ka kb kc : Nat}
theorem s_var {i : Nat} {nm : Str} (h : okE T n X.N X.env.scope (.var i) (.Name nm pos) = true) : PE X (.Name nm pos) (tK X P W 0 (.var i)) := by
  simp only [okE, Bool.and_eq_true, decide_eq_true_eq] at h
  refine PE.imp (pe_var h.1.1 (vis_of h.1.2) (okN_d h.2) (okN_c h.2)) fun σ H Q ⟨B, G, ρ, er, q⟩ => ?_
  simp only [ev] at q
  cases e : getS ρ i with
  | fz d =>
    rw [e] at q
    obtain ⟨o, h1, v, rfl, r⟩ := er.at_ i _ (getS_some e nofun)
    exact ⟨v, h1, q v H G (Ext.refl er.sub) r⟩
  | un => rw [e] at q; exact q.elim
  | ow _ => rw [e] at q; exact q.elim
  | ln _ => rw [e] at q; exact q.elim
  | ex _ _ _ _ => rw [e] at q; exact q.elim
theorem s_tv {i : Nat} {nm : Str} (h : okE T n X.N X.env.scope (.tv i) (.Name nm pos) = true) : PE X (.Name nm pos) (tK X P W 1 (.tv i)) := by
  simp only [okE, Bool.and_eq_true, decide_eq_true_eq] at h
  refine PE.imp (pe_var h.1.1 (vis_of h.1.2) (okN_d h.2) (okN_c h.2)) fun σ H Q ⟨B, G, ρ, er, q⟩ => ?_
  simp only [ev] at q
  cases e : getS ρ i with
  | fz d =>
    rw [e] at q
    obtain ⟨o, h1, v, rfl, r⟩ := er.at_ i _ (getS_some e nofun)
    cases d with
    | list ds => exact ⟨v, h1, q v H G (Ext.refl er.sub) (.st r)⟩
    | _ => exact q.elim
  | un => rw [e] at q; exact q.elim
  | ow ds =>
    rw [e] at q
    obtain ⟨o, h1, a, vs, rfl, h2, h3, r⟩ := er.at_ i _ (getS_some e nofun)
    exact ⟨_, h1, q _ H G (Ext.refl er.sub) (.wk (SqL.of h2) r)⟩
  | ln ds =>
    rw [e] at q
    obtain ⟨o, h1, a, vs, rfl, h2, r⟩ := er.at_ i _ (getS_some e nofun)
    exact ⟨_, h1, q _ H G (Ext.refl er.sub) (.wk (sqL_keep er.bas h2) r)⟩
  | ex _ _ _ _ => rw [e] at q; exact q.elim
theorem s_lit {e : E} {d : Dat} {v : V} {x : Expr} (hx : PE X x (tC v)) (he : ∀ ρ, ev P e ρ = .ok d) (r : ∀ G, Rep X.K G v d) : PE X x (tK X P W 0 e) :=
  PE.imp hx fun σ H Q ⟨B, G, ρ, er, q⟩ => by
    rw [he] at q
    exact q v H G (Ext.refl er.sub) (r G)
theorem weakE (ha : PE X x (tK X P W ka a)) : PE X x (tK X P W 1 a) := PE.imp ha fun _ _ _ h => tK_weak h
theorem stillE (hk : ka ≠ 1) (ha : PE X x (tK X P W ka a)) : PE X x (tK X P W 0 a) := PE.imp ha fun _ _ _ h => tK_still hk h
theorem s_bin {o : Bop} (ha : PE X x (tK X P W ka a)) (hb : PE X y (tK X P W kb b)) : PE X (.BinOp x (opB o) y pos) (tK X P W 0 (.bin o a b)) :=
  PE.imp (pe_op (op_bin o) (weakE ha) (weakE hb)) fun σ H Q ⟨B, G, ρ, er, q⟩ => by
    simp only [ev] at q
    refine bndE er q fun d v H1 G1 x1 r1 er1 q1 => ?_
    refine bndE er1 q1 fun e w H2 G2 x2 r2 er2 q2 => ?_
    obtain ⟨r, hr, fin⟩ := q2.op (bin_ne o d e)
    exact ⟨G2, d, e, r, er2.sub, RW.ext x2 r1, r2, hr, fin⟩
theorem s_neg (ha : PE X x (tK X P W ka a)) : PE X (.UnaryOp .USub x pos) (tK X P W 0 (.neg a)) :=
  PE.imp (pe_un un_neg (weakE ha)) fun σ H Q ⟨B, G, ρ, er, q⟩ => by
    simp only [ev] at q
    refine bndE er q fun d v H1 G1 x1 r1 er1 q1 => ?_
    cases d with
    | int i =>
      have := RW.int r1; subst this
      exact ⟨i, rfl, Fin.flat er1.sub (Fin.of q1) (.int _)⟩
    | _ => exact q1.elim
theorem s_cmp {o : Cop} {k : Nat} (hr : Room k X.A) (hp : plainE y = true) (ha : PE X x (tK X P W ka a)) (hb : PE X y (tK X P W kb b)) : PE X (.Compare x [opC o] [y] pos) (tK X P W 0 (.cmp o a b)) :=
  PE.imp (pe_cmpR (op_cmp hr o) (weakE ha) (weakE hb) (plain_mark hp)) fun σ H Q ⟨B, G, ρ, er, q⟩ => by
    simp only [ev] at q
    refine bndE er q fun d v H1 G1 x1 r1 er1 q1 => ?_
    refine bndE er1 q1 fun e w H2 G2 x2 r2 er2 q2 => ?_
    cases hc : cmpD o d e with
    | ok r => rw [hc] at q2; exact ⟨G2, d, e, r, er2.sub, RW.ext x2 r1, r2, hc, Fin.flat er2.sub (Fin.of q2) (.bl r)⟩
    | exc c z => exact absurd hc (cmp_ne o d e c z)
    | bad => rw [hc] at q2; exact q2.elim
theorem s_cmpT {o : Cop} {k : Nat} (hr : Room k X.A) (hp : plainE y = true) (ha : PE X x (tK X P W ka a)) (hb : PE X y (tK X P W kb b)) : PT X (.Compare x [opC o] [y] pos) (tT X P W (.cmp o a b)) :=
  PT.imp (pt_cmpR (op_cmp hr o) (weakE ha) (weakE hb) (plain_mark hp)) fun σ H Q ⟨B, G, ρ, er, q⟩ => by
    have e0 : (ev P (.cmp o a b) ρ >>= fun d => truD d) = (ev P a ρ >>= fun d => ev P b ρ >>= fun e => cmpD o d e) := by
      simp only [ev]
      cases h1 : ev P a ρ with
      | ok d =>
        simp only [ok_bind]
        cases h2 : ev P b ρ with
        | ok e =>
          simp only [ok_bind]
          cases h3 : cmpD o d e <;> rfl
        | exc _ _ => rfl
        | bad => rfl
      | exc _ _ => rfl
      | bad => rfl
    rw [e0] at q
    refine bndT er q fun d v H1 G1 x1 r1 er1 q1 => ?_
    refine bndT er1 q1 fun e w H2 G2 x2 r2 er2 q2 => ?_
    cases hc : cmpD o d e with
    | ok r => rw [hc] at q2; exact ⟨G2, d, e, r, er2.sub, RW.ext x2 r1, r2, hc, r, rfl, q2 H2 G2 (Ext.refl er2.sub)⟩
    | exc c z => exact absurd hc (cmp_ne o d e c z)
    | bad => rw [hc] at q2; exact q2.elim
theorem last_marks {o p : Cop} (hp : plainE z = true) : lastMarks [opC o, opC p] [y, z] = false := plain_mark hp
theorem s_chn {o p : Cop} {k : Nat} (hr : Room k X.A) (hp : plainE z = true) (ha : PE X x (tK X P W ka a)) (hb : PE X y (tK X P W kb b)) (hc : PE X z (tK X P W kc c)) : PE X (.Compare x [opC o, opC p] [y, z] pos) (tK X P W 0 (.chn o p a b c)) :=
  PE.imp (pe_chain (op_cmp hr o) (op_cmp hr p) (weakE ha) (weakE hb) (weakE hc) (last_marks hp)) fun σ H Q ⟨B, G, ρ, er, q⟩ => by
    simp only [ev] at q
    refine bndE er q fun d v H1 G1 x1 r1 er1 q1 => ?_
    refine bndE er1 q1 fun e w H2 G2 x2 r2 er2 q2 => ?_
    cases h1 : cmpD o d e with
    | ok r =>
      rw [h1] at q2
      refine ⟨G2, d, e, r, er2.sub, RW.ext x2 r1, r2, h1, r, rfl, ?_⟩
      cases r with
      | true =>
        rw [if_pos rfl]
        refine bndE er2 q2 fun f u H3 G3 x3 r3 er3 q3 => ?_
        cases h2 : cmpD p e f with
        | ok r => rw [h2] at q3; exact ⟨G3, e, f, r, er3.sub, RW.ext x3 r2, r3, h2, Fin.flat er3.sub (Fin.of q3) (.bl r)⟩
        | exc c z => exact absurd h2 (cmp_ne p e f c z)
        | bad => rw [h2] at q3; exact q3.elim
      | false =>
        rw [if_neg Bool.false_ne_true]
        exact Fin.flat er2.sub (Fin.of q2) (.bl false)
    | exc c z => exact absurd h1 (cmp_ne o d e c z)
    | bad => rw [h1] at q2; exact q2.elim
theorem s_chnT {o p : Cop} {k : Nat} (hr : Room k X.A) (hp : plainE z = true) (ha : PE X x (tK X P W ka a)) (hb : PE X y (tK X P W kb b)) (hc : PE X z (tK X P W kc c)) : PT X (.Compare x [opC o, opC p] [y, z] pos) (tT X P W (.chn o p a b c)) :=
  PT.imp (pt_chain (op_cmp hr o) (op_cmp hr p) (weakE ha) (weakE hb) (weakE hc) (last_marks hp)) fun σ H Q ⟨B, G, ρ, er, q⟩ => by
    have e0 : (ev P (.chn o p a b c) ρ >>= fun d => truD d) = (ev P a ρ >>= fun d => ev P b ρ >>= fun e => cmpD o d e >>= fun r => match r with
        | true => ev P c ρ >>= fun f => cmpD p e f
        | false => .ok false) := by
      simp only [ev]
      cases h1 : ev P a ρ with
      | ok d =>
        simp only [ok_bind]
        cases h2 : ev P b ρ with
        | ok e =>
          simp only [ok_bind]
          cases h3 : cmpD o d e with
          | ok r =>
            simp only [ok_bind]
            cases r with
            | true =>
              simp only
              cases h4 : ev P c ρ with
              | ok f =>
                simp only [ok_bind]
                cases h5 : cmpD p e f <;> rfl
              | exc _ _ => rfl
              | bad => rfl
            | false => rfl
          | exc _ _ => rfl
          | bad => rfl
        | exc _ _ => rfl
        | bad => rfl
      | exc _ _ => rfl
      | bad => rfl
    rw [e0] at q
    refine bndT er q fun d v H1 G1 x1 r1 er1 q1 => ?_
    refine bndT er1 q1 fun e w H2 G2 x2 r2 er2 q2 => ?_
    cases h1 : cmpD o d e with
    | ok r =>
      rw [h1] at q2
      refine ⟨G2, d, e, r, er2.sub, RW.ext x2 r1, r2, h1, r, rfl, ?_⟩
      cases r with
      | true =>
        rw [if_pos rfl]
        refine bndT er2 q2 fun f u H3 G3 x3 r3 er3 q3 => ?_
        cases h2 : cmpD p e f with
        | ok r => rw [h2] at q3; exact ⟨G3, e, f, r, er3.sub, RW.ext x3 r2, r3, h2, r, rfl, q3 H3 G3 (Ext.refl er3.sub)⟩
        | exc c z => exact absurd h2 (cmp_ne p e f c z)
        | bad => rw [h2] at q3; exact q3.elim
      | false =>
        rw [if_neg Bool.false_ne_true]
        exact ⟨false, rfl, q2 H2 G2 (Ext.refl er2.sub)⟩
    | exc c z => exact absurd h1 (cmp_ne o d e c z)
    | bad => rw [h1] at q2; exact q2.elim
/-- a value's truth as a test -/
theorem s_tst (ht : tstE x = true) (ha : PE X x (tK X P W ka a)) : PT X x (tT X P W a) :=
  PT.imp (pt_truth (weakE ha) (tst_true ht)) fun σ H Q ⟨B, G, ρ, er, q⟩ => by
    refine bndT er q fun d v H1 G1 x1 r1 er1 q1 => ?_
    cases h1 : truD d with
    | ok r => rw [h1] at q1; exact ⟨r, tru_of er1.sub r1 h1, q1 H1 G1 (Ext.refl er1.sub)⟩
    | exc c z => exact absurd h1 (tru_ne d c z)
    | bad => rw [h1] at q1; exact q1.elim
end
end NW
end

section
set_option maxHeartbeats 4000000
namespace NW
open PySem PySem.Spec PyProof.Rows L2

structure Snd (X : Cx) (T : Tx) (P : Pg) (W : WX) (e : E) (x : Expr) : Prop where
  pe : PE X x (tK X P W (kd T e) e)
  pt : isIfe e = false → PT X x (tT X P W e)
  pw : ∀ op vs pos, x = .BoolOp op vs pos → PW X x (tT X P W e)
section
variable {X : Cx} {T : Tx} {P : Pg} {n : Nat} {W : WX} {x y z : Expr} {pos : Pos} {a b c : E} {ka kb kc : Nat}
/-- two tests joined -/
theorem and_T (ρ : En) : (ev P (.and a b) ρ >>= fun d => truD d) = (ev P a ρ >>= fun d => truD d >>= fun r => match r with
    | true => ev P b ρ >>= fun e => truD e
    | false => .ok false) := by
  simp only [ev]
  cases h1 : ev P a ρ with
  | ok d =>
    simp only [ok_bind]
    cases h2 : truD d with
    | ok r =>
      simp only [ok_bind]
      cases r with
      | true => rfl
      | false => exact h2
    | exc _ _ => rfl
    | bad => rfl
  | exc _ _ => rfl
  | bad => rfl
theorem or_T (ρ : En) : (ev P (.or a b) ρ >>= fun d => truD d) = (ev P a ρ >>= fun d => truD d >>= fun r => match r with
    | true => .ok true
    | false => ev P b ρ >>= fun e => truD e) := by
  simp only [ev]
  cases h1 : ev P a ρ with
  | ok d =>
    simp only [ok_bind]
    cases h2 : truD d with
    | ok r =>
      simp only [ok_bind]
      cases r with
      | true => exact h2
      | false => rfl
    | exc _ _ => rfl
    | bad => rfl
  | exc _ _ => rfl
  | bad => rfl
theorem not_T (ρ : En) : (ev P (.not a) ρ >>= fun d => truD d) = (ev P a ρ >>= fun d => truD d >>= fun r => .ok (!r)) := by
  simp only [ev]
  cases h1 : ev P a ρ with
  | ok d =>
    simp only [ok_bind]
    cases h2 : truD d <;> rfl
  | exc _ _ => rfl
  | bad => rfl
theorem s_and {r : List Expr} (h1 : ka ≠ 1) (h2 : kb ≠ 1) (ha : PE X x (tK X P W ka a)) (hb : PE X (.BoolOp .And (y :: r) pos) (tK X P W kb b)) : PE X (.BoolOp .And (x :: y :: r) pos) (tK X P W 0 (.and a b)) :=
  PE.imp (pe_andT (stillE h1 ha) (stillE h2 hb)) fun σ H Q ⟨B, G, ρ, er, q⟩ => by
    simp only [ev] at q
    refine bndE er q fun d v H1 G1 x1 r1 er1 q1 => ?_
    cases h1 : truD d with
    | ok r =>
      rw [h1] at q1
      refine ⟨r, tru_of er1.sub (.st r1) h1, ?_⟩
      cases r with
      | true => rw [if_pos rfl]; exact ⟨B, G1, ρ, er1, q1⟩
      | false => rw [if_neg Bool.false_ne_true]; exact Fin.flat er1.sub (Fin.of q1) r1
    | exc c z => exact absurd h1 (tru_ne d c z)
    | bad => rw [h1] at q1; exact q1.elim
theorem s_or {r : List Expr} (h1 : ka ≠ 1) (h2 : kb ≠ 1) (ha : PE X x (tK X P W ka a)) (hb : PE X (.BoolOp .Or (y :: r) pos) (tK X P W kb b)) : PE X (.BoolOp .Or (x :: y :: r) pos) (tK X P W 0 (.or a b)) :=
  PE.imp (pe_orT (stillE h1 ha) (stillE h2 hb)) fun σ H Q ⟨B, G, ρ, er, q⟩ => by
    simp only [ev] at q
    refine bndE er q fun d v H1 G1 x1 r1 er1 q1 => ?_
    cases h1 : truD d with
    | ok r =>
      rw [h1] at q1
      refine ⟨r, tru_of er1.sub (.st r1) h1, ?_⟩
      cases r with
      | true => rw [if_pos rfl]; exact Fin.flat er1.sub (Fin.of q1) r1
      | false => rw [if_neg Bool.false_ne_true]; exact ⟨B, G1, ρ, er1, q1⟩
    | exc c z => exact absurd h1 (tru_ne d c z)
    | bad => rw [h1] at q1; exact q1.elim
theorem w_and {r : List Expr} (ha : PT X x (tT X P W a)) (hb : PW X (.BoolOp .And (y :: r) pos) (tT X P W b)) : PW X (.BoolOp .And (x :: y :: r) pos) (tT X P W (.and a b)) :=
  PW.imp (pw_and ha hb) fun σ H Q ⟨B, G, ρ, er, q⟩ => by
    rw [and_T] at q
    refine bndTT er q fun r H1 G1 x1 er1 q1 => ?_
    cases r with
    | true => rw [if_pos rfl]; exact ⟨B, G1, ρ, er1, q1⟩
    | false => rw [if_neg Bool.false_ne_true]; exact q1 H1 G1 (Ext.refl er1.sub)
theorem w_or {r : List Expr} (ha : PT X x (tT X P W a)) (hb : PW X (.BoolOp .Or (y :: r) pos) (tT X P W b)) : PW X (.BoolOp .Or (x :: y :: r) pos) (tT X P W (.or a b)) :=
  PW.imp (pw_or ha hb) fun σ H Q ⟨B, G, ρ, er, q⟩ => by
    rw [or_T] at q
    refine bndTT er q fun r H1 G1 x1 er1 q1 => ?_
    cases r with
    | true => rw [if_pos rfl]; exact q1 H1 G1 (Ext.refl er1.sub)
    | false => rw [if_neg Bool.false_ne_true]; exact ⟨B, G1, ρ, er1, q1⟩
theorem s_not (ha : PE X x (tK X P W ka a)) : PE X (.UnaryOp .Not x pos) (tK X P W 0 (.not a)) :=
  PE.imp (pe_notT (weakE ha)) fun σ H Q ⟨B, G, ρ, er, q⟩ => by
    simp only [ev] at q
    refine bndE er q fun d v H1 G1 x1 r1 er1 q1 => ?_
    cases h1 : truD d with
    | ok r => rw [h1] at q1; exact ⟨r, tru_of er1.sub r1 h1, Fin.flat er1.sub (Fin.of q1) (.bl _)⟩
    | exc c z => exact absurd h1 (tru_ne d c z)
    | bad => rw [h1] at q1; exact q1.elim
theorem s_notT (ha : PT X x (tT X P W a)) : PT X (.UnaryOp .Not x pos) (tT X P W (.not a)) :=
  PT.imp (pt_not ha) fun σ H Q ⟨B, G, ρ, er, q⟩ => by
    rw [not_T] at q
    refine bndTT er q fun r H1 G1 x1 er1 q1 => ?_
    exact q1 H1 G1 (Ext.refl er1.sub)
theorem s_ife (h1 : kb ≠ 1) (h2 : kc ≠ 1) (ha : PT X x (tT X P W a)) (hb : PE X y (tK X P W kb b)) (hc : PE X z (tK X P W kc c)) : PE X (.IfExp x y z pos) (tK X P W 0 (.ife a b c)) :=
  PE.imp (pe_ifExp ha (stillE h1 hb) (stillE h2 hc)) fun σ H Q ⟨B, G, ρ, er, q⟩ => by
    simp only [ev] at q
    refine bndTE er q fun r H1 G1 x1 er1 q1 => ?_
    cases r with
    | true => rw [if_pos rfl]; exact ⟨B, G1, ρ, er1, q1⟩
    | false => rw [if_neg Bool.false_ne_true]; exact ⟨B, G1, ρ, er1, q1⟩
theorem s_ix (hp : plainE y = true) (ha : PE X x (tK X P W ka a)) (hb : PE X y (tK X P W kb b)) : PE X (.Subscript x y pos) (tK X P W 0 (.ix a b)) :=
  PE.imp (pe_ix ix_data (weakE ha) (weakE hb) (plain_ix hp)) fun σ H Q ⟨B, G, ρ, er, q⟩ => by
    simp only [ev] at q
    refine bndE er q fun d v H1 G1 x1 r1 er1 q1 => ?_
    refine bndE er1 q1 fun e w H2 G2 x2 r2 er2 q2 => ?_
    obtain ⟨r, hr, fin⟩ := q2.op (ix_ne d e)
    exact ⟨G2, d, e, r, er2.sub, RW.ext x2 r1, r2, hr, fin⟩
/-- a slice's part -/
def tOp1 (X : Cx) (P : Pg) (W : WX) (e : E) : TO := fun σ H Q => ∃ B G ρ, ER X.K B ρ σ H G ∧ (match optE e (ev P e ρ) with
  | .ok o => ∀ H' G', Ext H G H' G' → Q o H'
  | .exc c x => ∀ cls dx H' G', Ext H G H' G' → XR X.K X.mg H' G' cls dx c x → W cls dx σ H'
  | .bad => False)
theorem PO.imp {X : Cx} {e : Option Expr} {t t' : TO} (h : PO X e t) (i : ∀ σ H Q, t' σ H Q → t σ H Q) : PO X e t' := ⟨fun pins s σ H Q I q => h.run pins s σ H Q I (i σ H Q q)⟩
theorem s_po {l : Option Expr} {lo : E} (h : (match l with
      | none => isNo lo
      | some l => !isNo lo && okE T n X.N X.env.scope lo l) = true) (hl : ∀ l, okE T n X.N X.env.scope lo l = true → PE X l (tK X P W (kd T lo) lo)) : PO X l (tOp1 X P W lo) := by
  cases l with
  | none =>
    refine PO.imp po_none fun σ H Q ⟨B, G, ρ, er, q⟩ => ?_
    cases lo <;> simp [isNo] at h
    exact q H G (Ext.refl er.sub)
  | some l =>
    simp only [Bool.and_eq_true, Bool.not_eq_true'] at h
    refine PO.imp (po_some (weakE (hl l h.2))) fun σ H Q ⟨B, G, ρ, er, q⟩ => ?_
    have e0 : optE lo (ev P lo ρ) = (ev P lo ρ >>= fun d => partD d) := by
      cases lo <;> first | rfl | (simp [isNo] at h)
    rw [e0] at q
    refine ⟨B, G, ρ, er, ?_⟩
    cases q1 : ev P lo ρ with
    | ok d =>
      rw [q1] at q
      intro v H' G' x r
      cases d with
      | int i => have := RW.int r; subst this; exact ⟨i, rfl, q H' G' x⟩
      | _ => exact q.elim
    | exc c x => rw [q1] at q; exact q
    | bad => rw [q1] at q; exact q
theorem bndO {e : E} {f : Option Int → Res Dat} {σ : L2.St} {B H G : Hp} {ρ : En} {Q : VK} {Q' : Option Int → Hp → Prop} (er : ER X.K B ρ σ H G) (h : EndE X W 0 σ H G Q (optE e (ev P e ρ) >>= f))
    (c : ∀ o H1 G1, Ext H G H1 G1 → ER X.K B ρ σ H1 G1 → EndE X W 0 σ H1 G1 Q (f o) → Q' o H1) : tOp1 X P W e σ H Q' := by
  refine ⟨B, G, ρ, er, ?_⟩
  cases q : optE e (ev P e ρ) with
  | ok d => rw [q] at h; exact fun H' G' x => c d H' G' x (er.ext x) (h.on x)
  | exc z y => rw [q] at h; exact h
  | bad => rw [q] at h; exact h
theorem s_sl {l h : Option Expr} {p2 : Pos} (ha : PE X x (tK X P W ka a)) (hl : PO X l (tOp1 X P W b)) (hh : PO X h (tOp1 X P W c)) : PE X (.Subscript x (.Slice l h none p2) pos) (tK X P W 0 (.sl a b c)) :=
  PE.imp (pe_slice sl_data (weakE ha) hl hh) fun σ H Q ⟨B, G, ρ, er, q⟩ => by
    simp only [ev] at q
    refine bndE er q fun d v H1 G1 x1 r1 er1 q1 => ?_
    refine bndO er1 q1 fun o H2 G2 x2 er2 q2 => ?_
    refine bndO er2 q2 fun u H3 G3 x3 er3 q3 => ?_
    obtain ⟨r, hr, fin⟩ := EndE.op (f := fun d => slD d o u) q3 (sl_ne d o u)
    exact ⟨G3, d, r, er3.sub, RW.ext x3 (RW.ext x2 r1), hr, fin⟩
theorem ras_still {K : PySem.W.Frag} {H G : Hp} : ∀ {vs : List V} {ds : List Dat}, RAs K H G [] vs ds → Reps K G vs ds
  | _, _, .nil => .nil
  | _, _, .cons r t => .cons (by simpa using r) (ras_still t)
theorem ras_weak {K : PySem.W.Frag} {H G : Hp} : ∀ {ws : List Bool} {vs : List V} {ds : List Dat}, RAs K H G ws vs ds → RWs K H G vs ds
  | _, _, _, .nil => .nil
  | ws, _, _, .cons r t => .cons (by
      by_cases h : ws.headD false = true
      · rw [if_pos h] at r; exact r
      · rw [if_neg h] at r; exact .st r) (ras_weak t)
theorem reps_len {K : PySem.W.Frag} {G : Hp} {vs : List V} {ds : List Dat} (r : Reps K G vs ds) {m : Nat} (h : ds.length ≤ m) : vs.length ≤ m := by rw [r.length]; exact h
theorem s_tup {xs : List Expr} {es : Es} {k : Nat} (h : PA X xs (tA X P W [] es)) : PE X (.Tuple xs k pos) (tK X P W 0 (.tup es)) :=
  PE.imp (pe_tup h) fun σ H Q ⟨B, G, ρ, er, q⟩ => by
    simp only [ev] at q
    refine bndAE er q fun ds vs H1 G1 _ x1 r1 er1 q1 => ?_
    split at q1
    · rename_i hz
      have rr := ras_still r1
      exact ⟨le_line (reps_len rr hz), fun p np => Fin.tup er1.sub (Fin.of q1) rr p np⟩
    · exact q1.elim
theorem New.of2 {σ : L2.St} {H G : Hp} {Q : VK} {ds : List Dat} (h : EndE X W 2 σ H G Q (.ok (.list ds))) : New X.K H G Q ds := fun a vs H' G' x na ga ha r => h _ H' G' x ⟨a, vs, ds, rfl, rfl, na, ga, ha, r⟩
theorem s_lst {xs : List Expr} {es : Es} (h : PA X xs (tA X P W [] es)) : PE X (.List xs pos) (tK X P W 2 (.lst es)) :=
  PE.imp (pe_lst h) fun σ H Q ⟨B, G, ρ, er, q⟩ => by
    simp only [ev] at q
    refine bndAE er q fun ds vs H1 G1 _ x1 r1 er1 q1 => ?_
    split at q1
    · rename_i hz
      have rr := ras_still r1
      exact ⟨le_line (reps_len rr hz), fun p np => (New.of2 q1).lst er1.sub rr p np⟩
    · exact q1.elim
def lenEs : Es → Nat
  | .nil => 0
  | .cons _ r => lenEs r + 1
theorem evs_len {ρ : En} : ∀ {es : Es} {ds : List Dat}, evs P es ρ = .ok ds → ds.length = lenEs es
  | .nil, ds, h => by simp only [evs] at h; cases h; rfl
  | .cons e r, ds, h => by
    simp only [evs] at h
    cases q : ev P e ρ with
    | ok d =>
      rw [q] at h
      simp only [ok_bind] at h
      cases q2 : evs P r ρ with
      | ok es => rw [q2] at h; simp only [ok_bind] at h; cases h; simp [evs_len q2, lenEs]
      | exc _ _ => rw [q2] at h; cases h
      | bad => rw [q2] at h; cases h
    | exc _ _ => rw [q] at h; cases h
    | bad => rw [q] at h; cases h
theorem okEs_len {N : List Str} {sc : Scope} : ∀ {es : Es} {ws : List Bool} {xs : List Expr}, okEs T n N sc ws es xs = true → lenEs es = xs.length
  | .nil, _, [], _ => rfl
  | .nil, _, _ :: _, h => by simp [okEs] at h
  | .cons e r, _, [], h => by simp [okEs] at h
  | .cons e r, ws, x :: xs, h => by
    simp only [okEs, Bool.and_eq_true] at h
    simp [lenEs, okEs_len h.2]
theorem ras_len {K : PySem.W.Frag} {H G : Hp} : ∀ {ws : List Bool} {vs : List V} {ds : List Dat}, RAs K H G ws vs ds → vs.length = ds.length
  | _, _, _, .nil => rfl
  | _, _, _, .cons _ t => by simp [ras_len t]
theorem s_cal {k : Nat} {nm : Str} {np : Pos} {xs : List Expr} {es : Es} {sg : Sig} (g : Gd X T P n W) (hs : T.fns[k]? = some sg) (hn : sg.nm = nm) (hk : k < n) (hg : glB X.env.scope nm = true) (ho : okN nm = true)
    (hw : sg.kw = none) (hcl : (!T.cl || sg.cl) = true) (hl : sg.ln.length = (y :: xs).length) (hl2 : lenEs es = (y :: xs).length) (hp : plains (y :: xs) = true) (h : PA X (y :: xs) (tA X P W sg.ln es)) : PE X (.Call (.Name nm np) (y :: xs) [] pos) (tK X P W sg.fr (.cal k es)) := by
  have hx := g.fns k sg hk hs
  unfold FnX at hx
  rw [hw] at hx
  obtain ⟨f, fd, ps, dfs, dvs, sp, h1, h2, h3, h4, h5, h6⟩ := hx
  subst hn
  have hp' := hp
  unfold plains at hp'
  rw [List.all_cons, Bool.and_eq_true] at hp'
  have hg' : X.env.scope.names.lookup sg.nm = some .globalImplicit := of_decide_eq_true hg
  refine PE.imp (pe_callSD h3 g.room hg' h1 h2 h4 h5 (fun σ => passB g.tk hcl σ) h (okN_d ho) (star_cons hp'.1) (no_star hp'.2)) fun σ H Q ⟨B, G, ρ, er, q⟩ => ?_
  simp only [ev] at q
  refine bndAE (Q' := fun vs H1 => sp (vs ++ dvs) H1 Q (WE W σ)) er q fun ds vs H1 G1 e1 x1 r1 er1 q1 => ?_
  refine h6 vs H1 Q (WE W σ) ?_
  refine ⟨G1, ds, er1.sub, by rw [ras_len r1, evs_len e1, hl, hl2], r1, ?_⟩
  cases hF : P.F k ds with
  | ok d => rw [hF] at q1; exact q1
  | exc c x => rw [hF] at q1; exact q1
  | bad => rw [hF] at q1; exact q1
/-- f(e, .., k = v) where what is raised is wished for at the caller's slots -/
def tCallNS (n m : Nat) (sp : Sp) (gV : List V → List V → List V) (E : L2.St → XK) (t tk : TA) : TE := fun σ H Q => t σ H fun vs H1 => tk σ H1 fun zs H2 => vs.length = n ∧ zs.length = m ∧ sp (gV vs zs) H2 Q (E σ)
theorem pe_callNS {CX : CXT} {k m : Nat} {f : Addr} {fd : FuncData} {ps ks : List Str} {sp : Sp} {E : L2.St → XK} {x : Str} {p pos : Pos} {e : Expr} {es : List Expr} {kws : List Keyword} {t tk : TA} {g : List Value → List Value → List Value} {gV : List V → List V → List V}
    (F : FnOk X.prog X.w X.K X.mg X.base CX k f fd ps sp) (hr : Room k X.A) (hg : Gl X x) (hm : X.mg x = some (.ref f)) (hk : PySem.W.keepIn X.K (.ref f) = true) (hb : KBn X.K fd ps m ks g gV) (hx : ∀ σ, PassesAt CX X σ (E σ))
    (ha : PA X (e :: es) t) (hkw : PK X kws tk) (hall : (backToKw pos (keywordEach kws X.env)).all (·.1.isSome) = true) (hks : (backToKw pos (keywordEach kws X.env)).filterMap (·.1) = ks)
    (hdb : (x == ("__debug__" : Str)) = false) (he : starEach (e :: es) X.env = (false, eval e X.env) :: starEach es X.env)
    (hpl : ((backTo pos (starEach (e :: es) X.env)).any (·.1) || (backToKw pos (keywordEach kws X.env)).any (·.1.isNone)) = false) :
    PE X (.Call (.Name x p) (e :: es) kws pos) (tCallNS m ks.length sp gV E t tk) := by
  refine ⟨fun pins s σ H Q I h => ?_⟩
  refine wpAny_Call_Name_kw (ld_glob I hg hm ?_ hdb)
  refine PySem.W.callWith_KW (h₀ := X.base) I.ok.mod.kin hk hall (thn (ha.run pos pins s σ H _ I h) fun us s1 ⟨vs, H1, I1, r, q⟩ => ?_) hpl he
  refine thn (hkw.run pos pins s1 σ H1 _ I1 q) fun ws s2 ⟨zs, H2, I2, rz, l1, l2, q2⟩ => ⟨I2.kIn, ?_⟩
  rw [hks]
  have r2 := hb.rel r rz
  refine wpAny_call (codeAny_mono (F.run X.A X.stack s2 H2 ⟨us, ks.zip ws⟩ (g us ws) (gV vs zs) Q (E σ) hr I2.env0 (hb.to s2 us ws I2.kIn (r.length.symm.trans l1) (rz.length.symm.trans l2)) r2 q2) fun r s' hq => ?_)
  cases r with
  | error e => exact hx σ pins H2 s2 e s' I2 hq
  | ok fl =>
    cases fl with
    | ret u => exact I2.after hq
    | next => exact False.elim hq
    | brk => exact False.elim hq
    | cont => exact False.elim hq
theorem ras_false {K : PySem.W.Frag} {H G : Hp} : ∀ {m : Nat} {vs : List V} {ds : List Dat}, Reps K G vs ds → RAs K H G (List.replicate m false) vs ds
  | _, [], _, .nil => .nil
  | 0, _ :: _, _, .cons r t => .cons (by simpa using r) (ras_false (m := 0) t)
  | m + 1, _ :: _, _, .cons r t => .cons (by simpa [List.replicate] using r) (ras_false t)
theorem s_calk {k : Nat} {nm w : Str} {np kp : Pos} {z : Expr} {xs : List Expr} {es : Es} {e : E} {sg : Sig} (g : Gd X T P n W) (hs : T.fns[k]? = some sg) (hn : sg.nm = nm) (hk : k < n) (hg : glB X.env.scope nm = true) (ho : okN nm = true)
    (hw : sg.kw = some w) (hcl : (!T.cl || sg.cl) = true) (hl : sg.ln.length = (y :: xs).length + 1) (hf : sg.fr = 0) (hl2 : lenEs es = (y :: xs).length) (hp : plains (y :: xs) = true) (h : PA X (y :: xs) (tA X P W [] es)) (he : PE X z (tK X P W 0 e)) :
    PE X (.Call (.Name nm np) (y :: xs) [⟨some w, z, kp⟩] pos) (tK X P W 0 (.calk k es w e)) := by
  have hx := g.fns k sg hk hs
  unfold FnX at hx
  rw [hw] at hx
  obtain ⟨f, fd, ps, gg, gV, sp, h1, h2, h3, h4, h5, h6⟩ := hx
  subst hn
  have hp' := hp
  unfold plains at hp'
  rw [List.all_cons, Bool.and_eq_true] at hp'
  have hg' : X.env.scope.names.lookup sg.nm = some .globalImplicit := of_decide_eq_true hg
  have hst : (backTo pos (starEach (y :: xs) X.env)).any (·.1) = false := no_star hp
  refine PE.imp (pe_callNS h3 g.room hg' h1 h2 h4 (fun σ => passB g.tk hcl σ) h (pk_cons (nm := some w) (kpos := kp) he pk_nil) rfl rfl (okN_d ho) (star_cons hp'.1) (by rw [hst]; rfl)) fun σ H Q ⟨B, G, ρ, er, q⟩ => ?_
  simp only [ev] at q
  refine bndAE (Q' := fun vs H1 => tCons (tK X P W 0 e) tNil σ H1 fun zs H2 => vs.length = sg.ln.length - 1 ∧ zs.length = [w].length ∧ sp (gV vs zs) H2 Q (WE W σ)) er q fun ds vs H1 G1 e1 x1 r1 er1 q1 => ?_
  refine bndE (Q' := fun v H2 => vs.length = sg.ln.length - 1 ∧ [v].length = [w].length ∧ sp (gV vs [v]) H2 Q (WE W σ)) er1 q1 fun d v H2 G2 x2 r2 er2 q2 => ?_
  have l1 : vs.length = (y :: xs).length := by rw [ras_len r1, evs_len e1, hl2]
  refine ⟨by omega, rfl, h6 vs v H2 Q (WE W σ) ?_⟩
  have rr := (ras_still r1).mono x2.stl
  refine ⟨G2, ds ++ [d], er2.sub, by rw [List.length_append, l1, hl]; rfl, ?_, ?_⟩
  · rw [h5]
    exact ras_false (rr.append (.cons r2 .nil))
  · cases hF : P.F k (ds ++ [d]) with
    | ok d => rw [hF] at q2; rw [hf]; exact q2
    | exc c x => rw [hF] at q2; exact q2
    | bad => rw [hF] at q2; exact q2
theorem PE.nil0 {vs : List V} {H G : Hp} {K : PySem.W.Frag} {d : Dat} {ws : List Bool} (r : RAs K H G ws vs [d]) : ∃ v, vs = [v] := by
  cases r with | cons _ t => cases t; exact ⟨_, rfl⟩
theorem s_bi {f : Bi} {np : Pos} {xs : List Expr} {es : Es} (g : Gd X T P n W) (hg : glB X.env.scope (nmB f) = true) (ho : okN (nmB f) = true) (hp : plains (y :: xs) = true) (h : PA X (y :: xs) (tA X P W [true, true] es)) :
    PE X (.Call (.Name (nmB f) np) (y :: xs) [] pos) (tK X P W (kd T (.bi f es)) (.bi f es)) := by
  have hp' := hp
  unfold plains at hp'
  rw [List.all_cons, Bool.and_eq_true] at hp'
  have hg' : X.env.scope.names.lookup (nmB f) = some .globalImplicit := of_decide_eq_true hg
  have hm : X.mg (nmB f) = none := g.blt _ (by cases f <;> simp [bltN, nmB])
  by_cases hL : f = .list
  · subst hL
    have hv : bootBuiltins (nmB .list) = some (.type "list") := boot_bi .list
    refine PE.imp (pe_callTy call_listN hg' hm hv h (okN_n ho) (okN_d ho) (star_cons hp'.1) (no_star hp'.2)) fun σ H Q ⟨B, G, ρ, er, q⟩ => ?_
    simp only [ev] at q
    refine bndAE (Q' := fun vs H1 => rListN X.K vs H1 Q) er q fun ds vs H1 G1 e1 x1 r1 er1 q1 => ?_
    cases hF : biD .list ds with
    | ok d =>
      rw [hF] at q1
      have key : ∃ e rs, ds = [e] ∧ d = .list rs := by
        rcases biD1 hF with ⟨e, rfl⟩ | ⟨e, e', rfl⟩
        · cases e <;> simp only [biD] at hF <;> cases hF <;> exact ⟨_, _, rfl, rfl⟩
        · cases e <;> simp only [biD] at hF <;> cases hF
      obtain ⟨e, rs, rfl, rfl⟩ := key
      exact ⟨G1, e, rs, er1.sub, ras_weak r1, hF, New.of2 q1⟩
    | exc c x => exact absurd hF (bi_ne _ _ _ _)
    | bad => rw [hF] at q1; exact q1.elim
  · by_cases hS : f = .sorted
    · subst hS
      have hv : bootBuiltins (nmB .sorted) = some (.builtin "sorted") := boot_bi .sorted
      refine PE.imp (pe_callB (call_sortedN g.calm (by have := g.room.un; omega)) hg' hm hv h (okN_n ho) (okN_d ho) (star_cons hp'.1) (no_star hp'.2)) fun σ H Q ⟨B, G, ρ, er, q⟩ => ?_
      simp only [ev] at q
      refine bndAE (Q' := fun vs H1 => rSortN X.K vs H1 Q) er q fun ds vs H1 G1 e1 x1 r1 er1 q1 => ?_
      cases hF : biD .sorted ds with
      | ok d =>
        rw [hF] at q1
        have key : ∃ e rs, ds = [e] ∧ d = .list rs := by
          rcases biD1 hF with ⟨e, rfl⟩ | ⟨e, e', rfl⟩
          · cases e <;> simp only [biD, sortD] at hF <;> try (cases hF; done)
            split at hF
            · split at hF <;> cases hF
              exact ⟨_, _, rfl, rfl⟩
            · unfold sortND at hF
              split at hF
              · split at hF <;> cases hF
                exact ⟨_, _, rfl, rfl⟩
              · cases hF
          · cases e <;> simp only [biD] at hF <;> cases hF
        obtain ⟨e, rs, rfl, rfl⟩ := key
        exact ⟨G1, e, rs, er1.sub, ras_weak r1, hF, New.of2 q1⟩
      | exc c x => exact absurd hF (bi_ne _ _ _ _)
      | bad => rw [hF] at q1; exact q1.elim
    have hk : kd T (.bi f es) = 0 := by cases f <;> first | rfl | exact absurd rfl hL | exact absurd rfl hS
    rw [hk]
    have go : ∀ σ H Q, tK X P W 0 (.bi f es) σ H Q → tCB (rBi X.K f) (tA X P W [true, true] es) σ H Q := fun σ H Q ⟨B, G, ρ, er, q⟩ => by
      simp only [ev] at q
      refine bndAE (Q' := fun vs H1 => rBi X.K f vs H1 Q) er q fun ds vs H1 G1 e1 x1 r1 er1 q1 => ?_
      obtain ⟨r, hr, fin⟩ : ∃ r, biD f ds = .ok r ∧ Fin X.K H1 G1 Q r := by
        cases hF : biD f ds with
        | ok r => rw [hF] at q1; exact ⟨r, rfl, q1⟩
        | exc c x => exact absurd hF (bi_ne _ _ _ _)
        | bad => rw [hF] at q1; exact q1.elim
      exact ⟨G1, ds, r, er1.sub, ras_weak r1, hr, fin⟩
    have hc := call_bi (X := X) g.calm (by have := g.room.un; omega) f
    have hv := boot_bi f
    cases f <;> first
      | exact PE.imp (pe_callB hc hg' hm hv h (okN_n ho) (okN_d ho) (star_cons hp'.1) (no_star hp'.2)) go
      | exact PE.imp (pe_callTy hc hg' hm hv h (okN_n ho) (okN_d ho) (star_cons hp'.1) (no_star hp'.2)) go
theorem s_isi {t : Ty} {f nm : Str} {np np2 : Pos} (g : Gd X T P n W) (hf : f = ("isinstance" : Str)) (hn : nm = PySem.Str.ofString (nmT t)) (h1 : glB X.env.scope f = true) (h2 : glB X.env.scope nm = true) (ho : okN nm = true) (hp : plainE x = true)
    (ha : PE X x (tK X P W ka a)) : PE X (.Call (.Name f np) [x, .Name nm np2] [] pos) (tK X P W 0 (.isi t a)) := by
  subst hf hn
  have g1 : X.env.scope.names.lookup ("isinstance" : Str) = some .globalImplicit := of_decide_eq_true h1
  have g2 : X.env.scope.names.lookup (PySem.Str.ofString (nmT t)) = some .globalImplicit := of_decide_eq_true h2
  have hm : X.mg (PySem.Str.ofString (nmT t)) = none := g.blt _ (by cases t <;> decide +kernel)
  have hb : PE X (.Name (PySem.Str.ofString (nmT t)) np2) (tC (.ty (nmT t))) := pe_bltn g2 hm (boot_ty t) rfl (okN_n ho) (okN_d ho)
  refine PE.imp (pe_callB (call_isiD t) g1 (g.blt _ (by decide +kernel)) PyProof.Rows.boot_isinstance (pa_cons (weakE ha) (pa_cons hb pa_nil) (star_cons hp)) (by decide) (by decide) (star_cons hp) rfl) fun σ H Q ⟨B, G, ρ, er, q⟩ => ?_
  simp only [ev] at q
  refine bndE er q fun d v H1 G1 x1 r1 er1 q1 => ?_
  cases hF : isiD t d with
  | ok r => rw [hF] at q1; exact ⟨G1, d, v, r, er1.sub, rfl, r1, hF, Fin.flat er1.sub (Fin.of q1) (.bl r)⟩
  | exc c x => exact absurd hF (isi_ne _ _ _ _)
  | bad => rw [hF] at q1; exact q1.elim
theorem m0_str {m : M0} {d r : Dat} (h : m0D m d = .ok r) : ∃ s, d = .str s := by cases m <;> cases d <;> simp only [m0D] at h <;> first | exact ⟨_, rfl⟩ | cases h
theorem m1_str {m : M1} {d e r : Dat} (h : m1D m d e = .ok r) : ∃ s, d = .str s := by cases m <;> cases d <;> simp only [m1D] at h <;> first | exact ⟨_, rfl⟩ | cases h
theorem s_m0 {m : M0} {apos : Pos} (hb : baseE x = true) (hl : (apos.endLine == pos.line) = true) (ha : PE X x (tK X P W ka a)) : PE X (.Call (.Attribute x (nm0 m) apos) [] [] pos) (tK X P W 0 (.m0 m a)) :=
  PE.imp (pe_m0 (slot0 m) (type0 m) (mt0_data m) (weakE ha) (base_attr hb) hl) fun σ H Q ⟨B, G, ρ, er, q⟩ => by
    simp only [ev] at q
    refine bndE er q fun d v H1 G1 x1 r1 er1 q1 => ?_
    obtain ⟨r, hr, fin⟩ := q1.op (m0_ne m d)
    obtain ⟨s, rfl⟩ := m0_str hr
    have := RW.str r1; subst this
    exact ⟨⟨_, rfl⟩, rfl, G1, _, r, er1.sub, r1, hr, fin⟩
theorem star1 {env : Env} (hp : plainE y = true) : starEach [y] env = [(false, eval y env)] := star_cons hp
theorem s_m1 {m : M1} {apos : Pos} (hb : baseE x = true) (hp : plainE y = true) (hl : (apos.endLine == pos.line) = true) (ha : PE X x (tK X P W ka a)) (hy : PE X y (tK X P W kb b)) : PE X (.Call (.Attribute x (nm1 m) apos) [y] [] pos) (tK X P W (kd T (.m1 m a b)) (.m1 m a b)) := by
  by_cases hS : m = .split
  · subst hS
    refine PE.imp (pe_m1 (slot1 .split) (type1 .split) mt_splitN (weakE ha) (weakE hy) (star1 hp) (base_attr hb) hl) fun σ H Q ⟨B, G, ρ, er, q⟩ => ?_
    simp only [ev] at q
    refine bndE er q fun d v H1 G1 x1 r1 er1 q1 => ?_
    cases d with
    | str s =>
      have := RW.str r1; subst this
      refine ⟨⟨_, rfl⟩, bndE er1 q1 fun e w H2 G2 x2 r2 er2 q2 => ?_⟩
      cases e <;> simp only [m1D] at q2 <;> try (exact q2.elim)
      split at q2
      · rename_i hz
        have := RW.str r2; subst this
        exact ⟨G2, _, _, er2.sub, rfl, rfl, hz.1, hz.2, New.of2 q2⟩
      · exact q2.elim
    | _ => exact q1.elim
  · have hk : kd T (.m1 m a b) = 0 := by cases m <;> first | rfl | exact absurd rfl hS
    rw [hk]
    refine PE.imp (pe_m1 (slot1 m) (type1 m) (mt1_data m) (weakE ha) (weakE hy) (star1 hp) (base_attr hb) hl) fun σ H Q ⟨B, G, ρ, er, q⟩ => ?_
    simp only [ev] at q
    refine bndE er q fun d v H1 G1 x1 r1 er1 q1 => ?_
    cases d with
    | str s =>
      have := RW.str r1; subst this
      refine ⟨⟨_, rfl⟩, bndE er1 q1 fun e w H2 G2 x2 r2 er2 q2 => ?_⟩
      obtain ⟨r, hr, fin⟩ := EndE.op (f := fun e => m1D m (.str s) e) q2 (m1_ne m _ e)
      exact ⟨G2, _, w, e, r, er2.sub, rfl, RW.ext x2 r1, r2, hr, fin⟩
    | _ => exact q1.elim

/-! ### targets -/
theorem loc_of {N : List Str} {sc : Scope} {x : Str} (h : locB sc x = true) : sc.names.lookup x = some .local := of_decide_eq_true h
theorem getD_set {ρ : En} : True := trivial
theorem ER.set {B H G : Hp} {ρ : En} {σ : L2.St} {v : V} {d : Dat} (er : ER X.K B ρ σ H G) (r : Rep X.K G v d) (i : Nat) : ER X.K B (ρ.set i (.fz d)) (σ.set i (some v)) H G := by
  refine ⟨er.bas, er.sub, by simp [er.len], fun j s e => ?_⟩
  by_cases h : i = j
  · subst h
    have hi : i < ρ.length := by
      have := (List.getElem?_eq_some_iff.mp e).1
      simpa using this
    rw [List.getElem?_set_self hi] at e
    cases e
    exact ⟨some v, List.getElem?_set_self (by rw [← er.len]; exact hi), v, rfl, r⟩
  · rw [List.getElem?_set_ne h] at e
    obtain ⟨o, h1, h2⟩ := er.at_ j s e
    exact ⟨o, by rw [List.getElem?_set_ne h]; exact h1, h2⟩
/-- a tuple's items, one by one -/
def gAll : List Nat → TGs
  | [] => gNil
  | i :: r => gCons (gName i) (gAll r)
theorem pgs_all {nd : X.N.Nodup} : ∀ {is : List Nat} {es : List Expr}, is.length = es.length → ((is.zip es).all fun p => match p.2 with
    | .Name x _ => decide (X.N[p.1]? = some x) && locB X.env.scope x
    | _ => false) = true → PGs X es (gAll is) ∧ (assignEach es X.env).length = is.length ∧ (assignEach es X.env).findIdx? (·.1) = none
  | [], [], _, _ => ⟨pgs_nil, rfl, rfl⟩
  | [], _ :: _, h, _ => by simp at h
  | _ :: _, [], h, _ => by simp at h
  | i :: is, e :: es, hl, h => by
    rw [List.zip_cons_cons, List.all_cons, Bool.and_eq_true] at h
    obtain ⟨i1, i2, i3⟩ := pgs_all (nd := nd) (is := is) (es := es) (by simpa using hl) h.2
    cases e <;> try (exact absurd h.1 Bool.false_ne_true)
    rename_i x p
    have h1 : X.N[i]? = some x ∧ locB X.env.scope x = true := by simpa using h.1
    refine ⟨pgs_cons (pg_name nd h1.1 (.inl (loc_of (N := X.N) h1.2)) (.inr (loc_of (N := X.N) h1.2))) i1 rfl, ?_, ?_⟩
    · show (assignEach es X.env).length + 1 = is.length + 1
      rw [i2]
    · show List.findIdx? (·.1) ((false, _) :: assignEach es X.env) = none
      rw [List.findIdx?_cons, i3]
      rfl
/-- a target's reading -/
def tG (K : PySem.W.Frag) : Tg → TG
  | .nm i => gName i
  | .tp is => gTup K is.length (gAll is)
theorem s_g {tg : Tg} (calm : X.calm = true) (nd : X.N.Nodup) (h : okG X.N X.env.scope tg x = true) : PG X x (tG X.K tg) := by
  cases tg with
  | nm i =>
    cases x <;> simp only [okG] at h <;> try (cases h; done)
    simp only [Bool.and_eq_true, decide_eq_true_eq] at h
    exact pg_name nd h.1 (.inl (loc_of (N := X.N) h.2)) (.inr (loc_of (N := X.N) h.2))
  | tp is =>
    cases x <;> simp only [okG] at h <;> try (cases h; done)
    rename_i es k p
    rw [Bool.and_eq_true] at h
    obtain ⟨i1, i2, i3⟩ := pgs_all (nd := nd) (of_decide_eq_true h.1) h.2
    exact pg_tup calm i1 i2 i3
/-- what a target does -/
theorem all_set {B H G : Hp} {Q : L2.St → Hp → Prop} : ∀ {is : List Nat} {vs : List V} {ds : List Dat} {ρ : En} {σ : L2.St}, ER X.K B ρ σ H G → Reps X.K G vs ds → ds.length = is.length →
    (∀ σ', ER X.K B ((is.zip ds).foldl (fun r p => r.set p.1 (.fz p.2)) ρ) σ' H G → (∀ j, j ∉ is → σ'[j]? = σ[j]?) → σ'.length = σ.length → Q σ' H) → gAll is vs σ H Q
  | [], vs, ds, ρ, σ, er, r, hl, c => by
    cases ds with
    | nil => cases r; exact ⟨rfl, c σ er (fun _ _ => rfl) rfl⟩
    | cons _ _ => simp at hl
  | i :: is, vs, ds, ρ, σ, er, r, hl, c => by
    cases ds with
    | nil => simp at hl
    | cons d ds =>
      cases r with
      | cons r t =>
        refine ⟨_, _, rfl, ?_⟩
        refine all_set (er.set r i) t (by simpa using hl) fun σ' er' k1 k2 => c σ' er' (fun j hj => ?_) (by rw [k2, List.length_set])
        rw [List.mem_cons, not_or] at hj
        rw [k1 j hj.2, List.getElem?_set_ne (fun e => hj.1 e.symm)]
/-- a slot that a target leaves -/
def tgNo (tg : Tg) (j : Nat) : Prop := match tg with
  | .nm i => j ≠ i
  | .tp is => j ∉ is
theorem g_set {B H G : Hp} {tg : Tg} {v : V} {d : Dat} {ρ ρ1 : En} {σ : L2.St} {Q : L2.St → Hp → Prop} (er : ER X.K B ρ σ H G) (r : Rep X.K G v d) (h : setT tg d ρ = .ok ρ1)
    (c : ∀ σ', ER X.K B ρ1 σ' H G → (∀ j, tgNo tg j → σ'[j]? = σ[j]?) → σ'.length = σ.length → Q σ' H) : tG X.K tg v σ H Q := by
  cases tg with
  | nm i =>
    simp only [setT] at h
    cases h
    exact c _ (er.set r i) (fun j hj => List.getElem?_set_ne (fun e => (show j ≠ i from hj) e.symm)) (List.length_set)
  | tp is =>
    cases d <;> simp only [setT] at h <;> try (cases h; done)
    rename_i ds
    split at h <;> cases h
    rename_i hl
    cases r with
    | tup q rr =>
      refine ⟨_, _, rfl, sqT_keep er.sub q, by rw [rr.length, hl], ?_⟩
      exact all_set er rr hl c
end
end NW
end

section
set_option maxHeartbeats 4000000
namespace NW
open PySem PySem.Spec PyProof.Rows L2

/-! ### what is walked -/
theorem ylds_list {K : PySem.W.Frag} {B G : Hp} {a : Addr} {vs : List V} {ds : List Dat} (q : SqL K G a vs) (r : Reps K G vs ds) : Ylds K B G (Itl K a) ds where
  go := fun i H G1 hi _ s1 s2 => by
    have hv : i < vs.length := by rw [r.length]; exact hi
    exact ⟨vs, vs[i], sqL_keep (s1.trans s2) q, by simp [hv]⟩
  stop := fun H G1 _ s1 s2 => ⟨vs, sqL_keep (s1.trans s2) q, by rw [r.length]; exact Nat.le_refl _⟩
  yld := fun i H G1 x H' hi _ s1 s2 y => by
    obtain ⟨e, y⟩ := y
    subst e
    obtain ⟨d, h1, h2⟩ := r.getV (y vs (sqL_keep (s1.trans s2) q))
    exact ⟨d, G1, h1, Ext.refl s2, h2.mono s1⟩
theorem ylds_lent {K : PySem.W.Frag} {B G : Hp} {a : Addr} {vs : List V} {ds : List Dat} (q : SqL K B a vs) (r : Reps K G vs ds) : Ylds K B G (Itl K a) ds where
  go := fun i H G1 hi s0 s1 s2 => by
    have hv : i < vs.length := by rw [r.length]; exact hi
    exact ⟨vs, vs[i], sqL_keep s0 q, by simp [hv]⟩
  stop := fun H G1 s0 s1 s2 => ⟨vs, sqL_keep s0 q, by rw [r.length]; exact Nat.le_refl _⟩
  yld := fun i H G1 x H' hi s0 s1 s2 y => by
    obtain ⟨e, y⟩ := y
    subst e
    obtain ⟨d, h1, h2⟩ := r.getV (y vs (sqL_keep s0 q))
    exact ⟨d, G1, h1, Ext.refl s2, h2.mono s1⟩
theorem ylds_tup {K : PySem.W.Frag} {B G : Hp} {a : Addr} {vs : List V} {ds : List Dat} (q : SqT K G a vs) (r : Reps K G vs ds) : Ylds K B G (Itt K a) ds where
  go := fun i H G1 hi _ s1 s2 => by
    have hv : i < vs.length := by rw [r.length]; exact hi
    exact ⟨vs, vs[i], sqT_keep (s1.trans s2) q, by simp [hv]⟩
  stop := fun H G1 _ s1 s2 => ⟨vs, sqT_keep (s1.trans s2) q, by rw [r.length]; exact Nat.le_refl _⟩
  yld := fun i H G1 x H' hi _ s1 s2 y => by
    obtain ⟨e, y⟩ := y
    subst e
    obtain ⟨d, h1, h2⟩ := r.getV (y vs (sqT_keep (s1.trans s2) q))
    exact ⟨d, G1, h1, Ext.refl s2, h2.mono s1⟩
theorem ylds_str {K : PySem.W.Frag} {B G : Hp} (x : Str) : Ylds K B G (Its x) (x.cps.toList.map fun c => PyData.str ⟨#[c]⟩) where
  go := fun i H G1 hi _ s1 s2 => by
    show i < x.cps.size
    simpa using hi
  stop := fun H G1 _ s1 s2 => by
    show x.cps.size ≤ _
    simp
  yld := fun i H G1 v H' hi _ s1 s2 y => by
    obtain ⟨e, c, hc, rfl⟩ := y
    subst e
    refine ⟨.str ⟨#[c]⟩, G1, ?_, Ext.refl s2, .str _⟩
    simp [hc]
theorem ylds_rng {K : PySem.W.Frag} {B G : Hp} (a : Int) (n : Nat) : Ylds K B G (Itr a n) (rngL a n) where
  go := fun i H G1 hi _ s1 s2 => by
    show i < n
    simpa [rngL] using hi
  stop := fun H G1 _ s1 s2 => by
    show n ≤ _
    simp [rngL]
  yld := fun i H G1 v H' hi _ s1 s2 y => by
    obtain ⟨e, rfl⟩ := y
    subst e
    have h : i < n := by simpa [rngL] using hi
    exact ⟨.int (a + i), G1, by simp [rngL, h], Ext.refl s2, .int _⟩
theorem PI.imp {X : Cx} {tg e : Expr} {t t' : TI} (h : PI X tg e t) (i : ∀ σ H R, t' σ H R → t σ H R) : PI X tg e t' := ⟨fun pins s σ H R I q => h.run pins s σ H R I (i σ H R q)⟩
theorem PI.or {X : Cx} {tg e : Expr} {t t' : TI} (h : PI X tg e t) (h' : PI X tg e t') : PI X tg e (fun σ H R => t σ H R ∨ t' σ H R) :=
  ⟨fun pins s σ H R I q => q.elim (h.run pins s σ H R I) (h'.run pins s σ H R I)⟩
section
variable {X : Cx} {T : Tx} {P : Pg} {n : Nat} {W : WX} {x y z tg : Expr} {pos : Pos} {a b c : E} {ka kb kc : Nat}
theorem s_seq (hk : ka ≠ 1) (ha : PE X x (tK X P W ka a)) : PI X tg x (tI X P W (.seq a)) := by
  have hs := stillE hk ha
  refine PI.imp (PI.or (pi_list hs) (PI.or (pi_tup hs) (pi_str hs))) fun σ H R ⟨B, G, ρ, er, q⟩ => ?_
  simp only [evI] at q
  cases e : ev P a ρ with
  | bad => rw [e] at q; exact q.elim
  | exc c z =>
    rw [e] at q
    refine .inl (show tK X P W 0 a σ H _ from ⟨B, G, ρ, er, ?_⟩)
    rw [e]
    exact q
  | ok d =>
    rw [e] at q
    cases d with
    | list ds =>
      refine .inl (show tK X P W 0 a σ H _ from ⟨B, G, ρ, er, ?_⟩)
      rw [e]
      intro v H' G' x1 r1
      obtain ⟨p, vs, rfl, q1, rr⟩ := RW.list x1.sub (.st r1)
      have r1' : Rep X.K G' (.ref p) (.list ds) := r1
      cases r1' with
      | lst q2 r2 => exact ⟨p, rfl, ⟨vs, q1⟩, q _ H' G' x1 (ylds_list q2 r2)⟩
    | tuple ds =>
      refine .inr (.inl (show tK X P W 0 a σ H _ from ⟨B, G, ρ, er, ?_⟩))
      rw [e]
      intro v H' G' x1 r1
      have r1' : Rep X.K G' v (.tuple ds) := r1
      cases r1' with
      | tup q2 r2 => exact ⟨_, rfl, ⟨_, sqT_keep x1.sub q2⟩, q _ H' G' x1 (ylds_tup q2 r2)⟩
    | str s =>
      refine .inr (.inr (show tK X P W 0 a σ H _ from ⟨B, G, ρ, er, ?_⟩))
      rw [e]
      intro v H' G' x1 r1
      have r1' : Rep X.K G' v (.str s) := r1
      cases r1' with
      | str => exact ⟨s, rfl, q _ H' G' x1 (ylds_str s)⟩
    | _ => exact q.elim
theorem s_lent {i : Nat} {nm : Str} (h : okI T n X.N X.env.scope (.lent i) (.Name nm pos) = true) : PI X tg (.Name nm pos) (tI X P W (.lent i)) := by
  simp only [okI, Bool.and_eq_true, decide_eq_true_eq] at h
  refine PI.imp (pi_list (pe_var h.1.1 (vis_of h.1.2) (okN_d h.2) (okN_c h.2))) fun σ H R ⟨B, G, ρ, er, q⟩ => ?_
  simp only [evI] at q
  cases e : getS ρ i with
  | ln ds =>
    rw [e] at q
    obtain ⟨o, h1, p, vs, rfl, h2, r⟩ := er.at_ i _ (getS_some e nofun)
    exact ⟨_, h1, p, rfl, ⟨vs, sqL_keep er.bas h2⟩, q _ H G (Ext.refl er.sub) (ylds_lent h2 r)⟩
  | un => rw [e] at q; exact q.elim
  | ow _ => rw [e] at q; exact q.elim
  | fz _ => rw [e] at q; exact q.elim
  | ex _ _ _ _ => rw [e] at q; exact q.elim
theorem s_own {i : Nat} {nm : Str} (h : okI T n X.N X.env.scope (.own i) (.Name nm pos) = true) : PI X tg (.Name nm pos) (tI X P W (.own i)) := by
  simp only [okI, Bool.and_eq_true, decide_eq_true_eq] at h
  refine PI.imp (pi_list (pe_var h.1.1 (vis_of h.1.2) (okN_d h.2) (okN_c h.2))) fun σ H R ⟨B, G, ρ, er, q⟩ => ?_
  simp only [evI] at q
  cases e : getS ρ i with
  | ow ds =>
    rw [e] at q
    obtain ⟨o, h1, p, vs, rfl, h2, ga, r⟩ := er.at_ i _ (getS_some e nofun)
    exact ⟨_, h1, p, rfl, ⟨vs, SqL.of h2⟩, q _ H G (Ext.refl er.sub) (ylds_lent (SqL.of h2) r)⟩
  | un => rw [e] at q; exact q.elim
  | ln _ => rw [e] at q; exact q.elim
  | fz _ => rw [e] at q; exact q.elim
  | ex _ _ _ _ => rw [e] at q; exact q.elim
theorem s_rng1 {f : Str} {np : Pos} (g : Gd X T P n W) (hf : f = ("range" : Str)) (h1 : glB X.env.scope f = true) (hp : plainE x = true) (ha : PE X x (tK X P W ka a)) : PI X tg (.Call (.Name f np) [x] [] pos) (tI X P W (.rng1 a)) := by
  subst hf
  have g1 : X.env.scope.names.lookup ("range" : Str) = some .globalImplicit := of_decide_eq_true h1
  refine PI.imp (pi_range1 g1 (g.blt _ (by decide +kernel)) (pa_cons (weakE ha) pa_nil (star_cons hp)) (star1 hp)) fun σ H R ⟨B, G, ρ, er, q⟩ => ?_
  simp only [evI] at q
  refine bndI er q fun d v H1 G1 x1 r1 er1 q1 => ?_
  cases d with
  | int j =>
    have := RW.int r1; subst this
    simp only at q1
    split at q1
    · rename_i hz
      unfold small62 at hz
      have hz := of_decide_eq_true hz
      exact ⟨j, rfl, hz.1, hz.2, q1 _ H1 G1 (Ext.refl er1.sub) (ylds_rng 0 j.toNat)⟩
    · exact q1.elim
  | _ => exact q1.elim
theorem s_rng2 {f : Str} {np : Pos} (g : Gd X T P n W) (hf : f = ("range" : Str)) (h1 : glB X.env.scope f = true) (hp : plainE x = true) (hp2 : plainE y = true) (ha : PE X x (tK X P W ka a)) (hb : PE X y (tK X P W kb b)) : PI X tg (.Call (.Name f np) [x, y] [] pos) (tI X P W (.rng2 a b)) := by
  subst hf
  have g1 : X.env.scope.names.lookup ("range" : Str) = some .globalImplicit := of_decide_eq_true h1
  refine PI.imp (pi_range2 g1 (g.blt _ (by decide +kernel)) (pa_cons (weakE ha) (pa_cons (weakE hb) pa_nil (star_cons hp2)) (star_cons hp)) (by rw [star_cons hp, star_cons hp2]; rfl) (star1 hp2)) fun σ H R ⟨B, G, ρ, er, q⟩ => ?_
  simp only [evI] at q
  refine bndI er q fun d v H1 G1 x1 r1 er1 q1 => ?_
  refine bndI er1 q1 fun e w H2 G2 x2 r2 er2 q2 => ?_
  cases d with
  | int i =>
    cases e with
    | int j =>
      have := RW.int r1; subst this
      have := RW.int r2; subst this
      simp only at q2
      split at q2
      · rename_i hz
        have hz := Bool.and_eq_true_iff.mp hz
        unfold small62 at hz
        have h3 := of_decide_eq_true hz.1
        have h4 := of_decide_eq_true hz.2
        exact ⟨i, j, rfl, ⟨h3.1, h3.2, h4.1, h4.2⟩, q2 _ H2 G2 (Ext.refl er2.sub) (ylds_rng i (j - i).toNat)⟩
      · exact q2.elim
    | _ => exact q2.elim
  | _ => cases e <;> exact q2.elim

/-! ### comprehensions -/
theorem wipe_get (σ : L2.St) : ∀ (vs : List Nat) (j : Nat), (wipe σ vs)[j]? = if j ∈ vs ∧ j < σ.length then some none else σ[j]?
  | [], j => by simp [wipe]
  | v :: vs, j => by
    unfold wipe
    have hl := wipe_length σ vs
    by_cases h : v = j
    · subst h
      by_cases hj : v < σ.length
      · rw [List.getElem?_set_self (by rw [hl]; exact hj), if_pos ⟨List.mem_cons_self, hj⟩]
      · rw [List.getElem?_eq_none (by rw [List.length_set, hl]; omega), if_neg (fun z => hj z.2), List.getElem?_eq_none (by omega)]
    · rw [List.getElem?_set_ne h, wipe_get σ vs j]
      have e : (j ∈ v :: vs ∧ j < σ.length) ↔ (j ∈ vs ∧ j < σ.length) := by
        rw [List.mem_cons]
        constructor
        · rintro ⟨z | z, k⟩
          · exact absurd z.symm h
          · exact ⟨z, k⟩
        · rintro ⟨z, k⟩; exact ⟨.inr z, k⟩
      simp only [e]
theorem unS_get (ρ : En) : ∀ (vs : List Nat) (j : Nat), (unS vs ρ)[j]? = if j ∈ vs ∧ j < ρ.length then some .un else ρ[j]?
  | [], j => by simp [unS]
  | v :: vs, j => by
    unfold unS
    have hl : ∀ vs : List Nat, (unS vs ρ).length = ρ.length := fun vs => by
      induction vs with
      | nil => rfl
      | cons v vs ih => unfold unS; rw [List.length_set, ih]
    by_cases h : v = j
    · subst h
      by_cases hj : v < ρ.length
      · rw [List.getElem?_set_self (by rw [hl]; exact hj), if_pos ⟨List.mem_cons_self, hj⟩]
      · rw [List.getElem?_eq_none (by rw [List.length_set, hl]; omega), if_neg (fun z => hj z.2), List.getElem?_eq_none (by omega)]
    · rw [List.getElem?_set_ne h, unS_get ρ vs j]
      have e : (j ∈ v :: vs ∧ j < ρ.length) ↔ (j ∈ vs ∧ j < ρ.length) := by
        rw [List.mem_cons]
        constructor
        · rintro ⟨z | z, k⟩
          · exact absurd z.symm h
          · exact ⟨z, k⟩
        · rintro ⟨z, k⟩; exact ⟨.inr z, k⟩
      simp only [e]
theorem unS_length (ρ : En) (vs : List Nat) : (unS vs ρ).length = ρ.length := by
  induction vs with
  | nil => rfl
  | cons v vs ih => unfold unS; rw [List.length_set, ih]
theorem ER.wipe {B H G : Hp} {ρ : En} {σ : L2.St} (er : ER X.K B ρ σ H G) (vs : List Nat) : ER X.K B (unS vs ρ) (wipe σ vs) H G := by
  refine ⟨er.bas, er.sub, by rw [unS_length, wipe_length, er.len], fun j s e => ?_⟩
  rw [unS_get] at e
  rw [wipe_get]
  by_cases h : j ∈ vs ∧ j < ρ.length
  · rw [if_pos h] at e
    cases e
    exact ⟨none, by rw [if_pos ⟨h.1, by rw [← er.len]; exact h.2⟩], trivial⟩
  · rw [if_neg h] at e
    rw [if_neg (by rw [← er.len]; exact h)]
    exact er.at_ j s e
theorem wipe_same {σ σ2 : L2.St} {vs : List Nat} (hl : σ2.length = σ.length) (h : ∀ j, j ∉ vs → σ2[j]? = (wipe σ vs)[j]?) : wipe σ2 vs = wipe σ vs := by
  refine List.ext_getElem? fun j => ?_
  rw [wipe_get]
  by_cases hj : j ∈ vs
  · rw [wipe_get]
    by_cases hz : j < σ.length
    · rw [if_pos ⟨hj, by omega⟩, if_pos ⟨hj, hz⟩]
    · rw [if_neg (fun z => hz (by omega)), if_neg (fun z => hz z.2), List.getElem?_eq_none (by omega), List.getElem?_eq_none (by omega)]
  · rw [if_neg (fun z => hj z.1)]
    exact h j hj
theorem lcL_ne {f : Dat → Res (Option Dat)} (hf : ∀ d c x, f d ≠ .exc c x) : ∀ (xs : List Dat) c x, lcL f xs ≠ .exc c x
  | [], c, x, h => by cases h
  | d :: ds, c, x, h => by
    simp only [lcL] at h
    cases q : f d with
    | ok o =>
      rw [q] at h
      cases q2 : lcL f ds with
      | ok r => simp only [ok_bind, q2] at h; cases h
      | exc c' x' => exact lcL_ne hf ds c' x' q2
      | bad => simp only [ok_bind, q2, bad_bind] at h; cases h
    | exc c' x' => exact hf _ _ _ q
    | bad => rw [q] at h; cases h
theorem lcL_cons {f : Dat → Res (Option Dat)} {d : Dat} {ds ys : List Dat} (h : lcL f (d :: ds) = .ok ys) : ∃ o r, f d = .ok o ∧ lcL f ds = .ok r ∧ ys = (match o with
    | some y => y :: r
    | none => r) := by
  simp only [lcL] at h
  cases q : f d with
  | ok o =>
    rw [q] at h
    cases q2 : lcL f ds with
    | ok r => simp only [ok_bind, q2] at h; cases h; exact ⟨o, r, rfl, rfl, rfl⟩
    | exc _ _ => simp only [ok_bind, q2] at h; cases h
    | bad => simp only [ok_bind, q2] at h; cases h
  | exc _ _ => rw [q] at h; cases h
  | bad => rw [q] at h; cases h
theorem noX_ne {α : Type} (r : Res α) (c : Str) (x : Option Dat) : noX r ≠ .exc c x := by cases r <;> intro h <;> cases h
theorem noX_ok' {α : Type} {r : Res α} {a : α} (h : noX r = .ok a) : r = .ok a := by cases r <;> cases h; rfl
theorem tg_in {own : List Nat} {tg : Tg} (h : tgIn own tg = true) {j : Nat} (hj : j ∉ own) : tgNo tg j := by
  cases tg with
  | nm i =>
    intro e
    subst e
    exact hj (by simpa [tgIn] using h)
  | tp is =>
    intro hm
    have h : is.all own.contains = true := h
    exact hj (by simpa using List.all_eq_true.mp h j hm)
/-- the test of a comprehension -/
def okIf (T : Tx) (n : Nat) (N : List Str) (sc : Scope) (tt : E) (ifs : List Expr) : Prop := match ifs with
  | [] => tt = .bl true
  | [c] => isIfe tt = false ∧ okE T n N sc tt c = true
  | _ => False
def tIfs (X : Cx) (P : Pg) (ifs : List Expr) (tt : E) : TT := match ifs with
  | [] => tYes
  | _ => tT X P (fun _ _ _ _ => False) tt
theorem c_lc {own : List Nat} {tg : Tg} {it : NW.It} {tt elt : E} {ifs : List Expr} {ke : Nat} (hin : tgIn own tg = true) (hk : ke ≠ 1) (hif : ifs = [] → tt = .bl true) (σ : L2.St) (H : Hp) (Q : VK) (h : tK X P W 2 (.lc own tg it tt elt) σ H Q) :
    tLc (tI X P W it) (tG X.K tg) (tIfs X P ifs tt) (tK X P (fun _ _ _ _ => False) ke elt) ((own.map fun i => (X.N.getD i "", i)).map (·.2)) σ H Q := by
  obtain ⟨B0, G, ρ, er0, q⟩ := h
  obtain ⟨B, hB, er⟩ : ∃ B, B = H ∧ ER X.K B ρ σ H G := ⟨H, rfl, er0.re⟩
  have eown : (own.map fun i => (X.N.getD i "", i)).map (·.2) = own := by
    rw [List.map_map]
    exact List.map_id' own
  rw [eown]
  simp only [ev] at q
  refine ⟨B, G, ρ, er, ?_⟩
  have hbi : bI it B H = B := by rw [hB, bI_self]
  rw [hbi]
  clear hbi hB
  cases qi : evI P it ρ with
  | exc c z => rw [qi] at q; exact q
  | bad => rw [qi] at q; exact q
  | ok xs =>
    rw [qi] at q
    simp only [ok_bind] at q
    split at q
    case isFalse => exact q.elim
    rename_i hz
    generalize hf : (fun x => noX (setT tg x (unS own ρ) >>= fun ρ1 => ev P tt ρ1 >>= fun t => truD t >>= fun r => match r with
        | true => ev P elt ρ1 >>= fun y => .ok (some y)
        | false => .ok none)) = f at q
    have hfn : ∀ d c x, f d ≠ .exc c x := fun d c x => by rw [← hf]; exact noX_ne _ _ _
    cases ql : lcL f xs with
    | exc c z => exact absurd ql (lcL_ne hfn xs c z)
    | bad => rw [ql] at q; exact q.elim
    | ok ys =>
      rw [ql] at q
      simp only [ok_bind] at q
      have fin := New.of2 (W := W) q
      clear q
      intro J H1 G1 x1 Y D nD
      have nGD : G1 D = none := x1.sub.free nD
      refine ⟨fun i m H' => m = xs.length - i ∧ i ≤ xs.length ∧ ∃ G' vs acc rest, Ext H1 G1 H' G' ∧ H' D = some (.lst vs) ∧ G' D = none ∧ Reps X.K G' vs acc ∧ vs.length ≤ i ∧ lcL f (xs.drop i) = .ok rest ∧ acc ++ rest = ys,
        ⟨xs.length, by simp, Nat.zero_le _, G1, [], [], ys, Ext.laid x1.sub nD _, upd_same, nGD, .nil, Nat.le_refl _, ql, rfl⟩, ?_⟩
      rintro i m H2 ⟨rfl, hi, G2, vs, acc, rest, x2, hD, gD, rr, hv, hl, hy⟩
      have er2 := er.ext (x1.trans x2)
      by_cases hlt : i < xs.length
      · refine .inr ⟨Y.go i H2 G2 hlt er2.bas x2.stl x2.sub, fun H' => i + 1 ≤ xs.length ∧ ∃ G' vs acc rest, Ext H1 G1 H' G' ∧ H' D = some (.lst vs) ∧ G' D = none ∧ Reps X.K G' vs acc ∧ vs.length ≤ i + 1 ∧ lcL f (xs.drop (i + 1)) = .ok rest ∧ acc ++ rest = ys,
          fun H' h => ⟨xs.length - (i + 1), by omega, rfl, h.1, h.2⟩, fun v H3 y => ?_⟩
        obtain ⟨d, G3, hd, x3, rd⟩ := Y.yld i H2 G2 v H3 hlt er2.bas x2.stl x2.sub y
        have edrop : xs.drop i = d :: xs.drop (i + 1) := by
          rw [List.drop_eq_getElem_cons hlt]
          have := (List.getElem?_eq_some_iff.mp hd).2
          rw [this]
        rw [edrop] at hl
        obtain ⟨o, r', fo, fr, hrest⟩ := lcL_cons hl
        rw [← hf] at fo
        have fo' := noX_ok' fo
        have er3 := (er2.ext x3).wipe own
        cases qs : setT tg d (unS own ρ) with
        | exc _ _ => rw [qs] at fo'; cases fo'
        | bad => rw [qs] at fo'; cases fo'
        | ok ρ1 =>
          rw [qs] at fo'
          simp only [ok_bind] at fo'
          have gD3 : G3 D = none := by
            cases q : G3 D with
            | none => rfl
            | some o =>
              rcases x3.new D (by rw [q]; simp) with z | z
              · exact absurd gD z
              · rw [hD] at z; cases z
          refine g_set er3 rd qs fun σ4 er4 k1 k2 => ⟨wipe_same (by rw [k2, wipe_length]) fun j hj => k1 j (tg_in hin hj), ?_⟩
          cases qt : ev P tt ρ1 with
          | exc _ _ => rw [qt] at fo'; cases fo'
          | bad => rw [qt] at fo'; cases fo'
          | ok t =>
            rw [qt] at fo'
            simp only [ok_bind] at fo'
            cases qb : truD t with
            | exc _ _ => rw [qb] at fo'; cases fo'
            | bad => rw [qb] at fo'; cases fo'
            | ok b =>
              rw [qb] at fo'
              simp only [ok_bind] at fo'
              have body : ∀ H5 G5, Ext H3 G3 H5 G5 → ER X.K B ρ1 σ4 H5 G5 → (if b = true then tK X P (fun _ _ _ _ => False) ke elt σ4 H5 (fun y H4 => ∃ acc, H4 D = some (.lst acc) ∧ acc.length < sizeLine ∧
                  (i + 1 ≤ xs.length ∧ ∃ G' vs acc' rest, Ext H1 G1 (upd H4 D (.lst (acc ++ [y]))) G' ∧ (upd H4 D (.lst (acc ++ [y]))) D = some (.lst vs) ∧ G' D = none ∧ Reps X.K G' vs acc' ∧ vs.length ≤ i + 1 ∧ lcL f (xs.drop (i + 1)) = .ok rest ∧ acc' ++ rest = ys))
                else (i + 1 ≤ xs.length ∧ ∃ G' vs acc' rest, Ext H1 G1 H5 G' ∧ H5 D = some (.lst vs) ∧ G' D = none ∧ Reps X.K G' vs acc' ∧ vs.length ≤ i + 1 ∧ lcL f (xs.drop (i + 1)) = .ok rest ∧ acc' ++ rest = ys)) := by
                intro H5 G5 x5 er5
                have xx := (x2.trans x3).trans x5
                have hD5 : H5 D = some (.lst vs) := x5.all _ _ (x3.all _ _ hD)
                have gD5 : G5 D = none := by
                  cases q : G5 D with
                  | none => rfl
                  | some o =>
                    rcases x5.new D (by rw [q]; simp) with z | z
                    · exact absurd gD3 z
                    · rw [x3.all _ _ hD] at z; cases z
                cases b with
                | false =>
                  rw [if_neg Bool.false_ne_true]
                  simp only at fo'
                  cases fo'
                  simp only at hrest
                  subst hrest
                  exact ⟨hlt, G5, vs, acc, _, xx, hD5, gD5, (rr.mono x3.stl).mono x5.stl, by omega, fr, hy⟩
                | true =>
                  rw [if_pos rfl]
                  simp only at fo'
                  refine tK_still hk ⟨B, G5, ρ1, er5, ?_⟩
                  cases qe : ev P elt ρ1 with
                  | exc _ _ => rw [qe] at fo'; cases fo'
                  | bad => rw [qe] at fo'; cases fo'
                  | ok e =>
                    rw [qe] at fo'
                    simp only [ok_bind] at fo'
                    cases fo'
                    simp only at hrest
                    subst hrest
                    intro w H6 G6 x6 r6
                    have r6 : Rep X.K G6 w e := r6
                    have hD6 : H6 D = some (.lst vs) := x6.all _ _ hD5
                    have gD6 : G6 D = none := by
                      cases q : G6 D with
                      | none => rfl
                      | some o =>
                        rcases x6.new D (by rw [q]; simp) with z | z
                        · exact absurd gD5 z
                        · rw [hD5] at z; cases z
                    refine ⟨vs, hD6, lt_line (by omega), hlt, G6, vs ++ [w], acc ++ [e], r', ?_, upd_same, gD6, (((rr.mono x3.stl).mono x5.stl).mono x6.stl).append (.cons r6 .nil), by rw [List.length_append]; simp; omega, fr, by rw [List.append_assoc]; exact hy⟩
                    have x7 := xx.trans x6
                    refine ⟨fun a o h => ?_, x7.stl, fun a o h => ?_, x7.new⟩
                    · rw [upd_ne (ne_of_none h nD)]; exact x7.all _ _ h
                    · rw [upd_ne (ne_of_none h gD6)]; exact x7.sub _ _ h
              match ifs, hif with
              | [], hif =>
                have e0 := hif rfl
                subst e0
                simp only [ev] at qt
                cases qt
                simp only [truD] at qb
                cases qb
                exact body H3 G3 (Ext.refl x3.sub) er4
              | c :: cs, hif =>
                refine ⟨B, G3, ρ1, er4, ?_⟩
                rw [qt]
                simp only [ok_bind]
                rw [qb]
                intro H5 G5 x5
                exact body H5 G5 x5 (er4.ext x5)
      · have e : i = xs.length := by omega
        subst e
        rw [List.drop_length] at hl
        simp only [lcL] at hl
        cases hl
        rw [List.append_nil] at hy
        subst hy
        refine .inl ⟨Y.stop H2 G2 er2.bas x2.stl x2.sub, ?_⟩
        exact fin D vs H2 G2 (x1.trans x2) (x1.all.free nD) gD hD rr
theorem s_lc {own : List Nat} {tg : Tg} {it : NW.It} {tt elt : E} {g iter : Expr} {ifs : List Expr} {scope : Scope} {ke : Nat} (gd : Gd X T P n W)
    (ok : blkC X.N X.env.scope scope (own.map fun i => (X.N.getD i "", i)) = true) (hin : tgIn own tg = true) (hp : plainE iter = true) (hk : ke ≠ 1) (hif : ifs = [] → tt = .bl true)
    (hi : PI X g iter (tI X P W it))
    (hg : ∀ (s : Shared) (H : Hp) (C : Addr) (cl : List (Str × Addr)) (fp : List Addr), PG (X.blk s H scope (compEnvC scope cl C X.env) fp) g (tG X.K tg))
    (ht : ∀ (s : Shared) (H : Hp) (C : Addr) (cl : List (Str × Addr)) (fp : List Addr), PTs (X.blk s H scope (compEnvC scope cl C X.env) fp) ifs (tIfs X P ifs tt))
    (he : ∀ (s : Shared) (H : Hp) (C : Addr) (cl : List (Str × Addr)) (fp : List Addr), PE (X.blk s H scope (compEnvC scope cl C X.env) fp) x (tK X P (fun _ _ _ _ => False) ke elt)) :
    PE X (.ListComp x [⟨g, iter, ifs, 0⟩] scope pos) (tK X P W 2 (.lc own tg it tt elt)) :=
  PE.imp (pe_lc (pos := pos) gd.calm gd.nd hi (blkOk_by ok) hg ht he (plain_fold hp)) (c_lc hin hk hif)
end
end NW
end

section
set_option maxHeartbeats 8000000
/-! an exception with a row, made and asked for its row -/
namespace NW
open PySem PySem.Spec PyProof.Rows L2
theorem passes0 {X : Cx} : Passes (L2.CX X.prog X.w) X (fun _ _ _ => False) := fun _ _ _ _ _ _ _ x => by
  obtain ⟨_, _, _, _, _, _, _, _, _, _, _, _, z⟩ := x
  exact z.elim
/-- what a made exception leaves -/
theorem made_row {K : PySem.W.Frag} {mg : Str → Option Value} {H G : Hp} {a C dx : Addr} {v : V} {d : Dat} {c : Str} (sm : Same G H) (na : H a = none) (nd : H dx = none) (hda : dx ≠ a) (hC : mg c = some (.ref C)) (r : Rep K G v d) :
    Ext H G (upd (L2.del (upd (upd (upd H a (exo a C none)) dx (exd dx [(("row" : Str), v)])) a (exo a C (some dx))) a) dx (.xd [(("row" : Str), v)])) G ∧
    XR K mg (upd (L2.del (upd (upd (upd H a (exo a C none)) dx (exd dx [(("row" : Str), v)])) a (exo a C (some dx))) a) dx (.xd [(("row" : Str), v)])) G (.ref C) (some dx) c (some d) := by
  have key : ∀ b o, H b = some o → upd (L2.del (upd (upd (upd H a (exo a C none)) dx (exd dx [(("row" : Str), v)])) a (exo a C (some dx))) a) dx (.xd [(("row" : Str), v)]) b = some o := fun b o e => by
    have hb : b ≠ dx := ne_of_none e nd
    have hb2 : b ≠ a := ne_of_none e na
    rw [upd_ne hb, L2.del_ne hb2, upd_ne hb2, upd_ne hb, upd_ne hb2]
    exact e
  exact ⟨⟨key, Same.refl G, fun b o e => key b o (sm _ _ e), fun b e => .inl e⟩, ⟨C, hC, rfl⟩, dx, v, rfl, upd_same, r⟩
theorem mk_row {K : PySem.W.Frag} {H : Hp} {C : Addr} {v : V} {Q : XK} (T : OexC K C) (hn : PySem.W.findIn K (.ref C) "row" = some none)
    (q : ∀ a dx, H a = none → H dx = none → dx ≠ a → Q (.ref C) (some dx) (upd (L2.del (upd (upd (upd H a (exo a C none)) dx (exd dx [(("row" : Str), v)])) a (exo a C (some dx))) a) dx (.xd [(("row" : Str), v)]))) :
    [v].length ≤ 1000 ∧ ∀ a, H a = none → spInit K (.ref a :: ([v] ++ [])) (upd H a (exo a C none)) (fun u H2 => u = .non ∧ ∃ (d : Addr) (fs : List (Str × V)), H2 a = some (exo a C (some d)) ∧ H2 d = some (exd d fs) ∧ H d = none ∧ Q (.ref C) (some d) (upd (L2.del H2 a) d (.xd fs))) (fun _ _ _ => False) := by
  refine ⟨by simp, fun a na => ⟨a, C, v, rfl, T, hn, upd_same, fun dx nd hda => ⟨rfl, dx, [(("row" : Str), v)], upd_same, ?_, ?_, ?_⟩⟩⟩
  · rw [upd_ne hda, upd_same]
  · rw [upd_ne hda] at nd; exact nd
  · rw [upd_ne hda] at nd; exact q a dx na nd hda
theorem inv_grow {X : Cx} {pins : List (Addr × Obj)} {σ : L2.St} {H : Hp} {sI s' : Shared} (J : Inv X pins σ H sI) (k : ∀ b o, sI.heap.get? b = some o → s'.heap.get? b = some o) (os : s'.os = sI.os) (ag : AllBare s'.gens) : Inv X pins σ H s' :=
  J.call' (ch := []) os { keep := fun b o q n _ _ => k b o q
                          slot := fun b o q n _ _ => ⟨o.slots, k b o q⟩
                          free := fun b o q n _ => n
                          there := fun b o q _ => ⟨o, k b o q⟩
                          tups := fun b xs q => q
                          frzs := fun b o v q => q
                          tbls := fun b ps q => ⟨#[], by rw [q]; simp⟩ } (fun b o q => (J.hok b o q).stay (fun c v _ z => k c v z) (fun c h => h) (fun c xs h => h)) ag (fun b z => absurd z (by simp))
/-- C(e).f -/
def tNw (t : L2.St → Hp → XK → Prop) (C : Addr) (f : Str) : TE := fun σ H Q => t σ H fun cls d H' => cls = .ref C ∧ ∃ (dd : Addr) (fs : List (Str × V)) (v : V), d = some dd ∧ H' dd = some (.xd fs) ∧ fs.lookup f = some v ∧ Q v H'
theorem pe_nw {X : Cx} {C : Addr} {e : Expr} {t : L2.St → Hp → XK → Prop} {pos : Pos} {n : Str} (T : XfC X.K C) (hno : PySem.W.findIn X.K (.ref C) n = some none) (he : PMk X e t) (hb : attributeBase e n X.env (eval e X.env) = eval e X.env := by rfl) :
    PE X (.Attribute e n pos) (tNw t C n) := by
  refine ⟨fun pins s σ H Q I h => ?_⟩
  refine attr_of hb (thn (he pins s σ H _ I h) fun u s1 hh => ?_)
  obtain ⟨a, oe, vs, sI, H', cls, d, ea, J, k, hne, ha, hz, hd, h1, na, os, ag, r, ec, dd, fs, v, ed, ex, l, q⟩ := hh
  subst ea
  subst ec
  subst ed
  have I1 : Inv X pins σ H' s1 := inv_grow J k os ag
  have hx : ObjOk X.prog X.w H' s1.heap dd (.xd fs) := I1.hok dd _ ex
  obtain ⟨mA, hns, hr⟩ := hx
  obtain ⟨od, ho, hl⟩ := lookIn_ns hns
  obtain ⟨u, hu, ru⟩ := RelO.some_of (v := v) (o := mA n) (by rw [← l]; exact hr n)
  have I2 : PySem.W.InstAt s1.heap a oe C (some od) := ⟨ha, hz.1, by unfold PySem.W.notCls; rw [hd] <;> rfl, by rw [hz.2]; exact ho⟩
  exact HandSPX.exc_get I1.kIn I2 T.ga T.gg T.exC (PySem.W.findObj_own T.hdC hno rfl (by rw [hl, hu])) (handed_of ru) ⟨v, H', I1.tok _, ru, q⟩
section
variable {T : Tx} {P : Pg} {n : Nat} {X : Cx} {W : WX} {y : Expr}
theorem s_nrw {c : Str} {e : E} {np cp rp : Pos} (g : Gd X T P n W) (hg : glB X.env.scope c = true) (ho : okN c = true) (hx : T.exr.contains c = true) (hn : 2 ≤ n) (hp : plainE y = true) (hk : kd T e ≠ 1) (he : PE X y (tK X P W (kd T e) e)) :
    PE X (.Attribute (.Call (.Name c np) [y] [] cp) "row" rp) (tK X P W 0 (.nrw c e)) := by
  obtain ⟨C, h1, fI, fd, r1, r2, r3, r4, r5, r6, r7, r8⟩ := g.exr c (List.contains_iff_mem.mp hx)
  have hg' : X.env.scope.names.lookup c = some .globalImplicit := of_decide_eq_true hg
  refine PE.imp (pe_nw r8 r2 (pmk_oex r1 r3 r4 r5 (g.room.mono hn) r7 .nil passes0 hg' h1 (pa_cons (stillE hk he) pa_nil (star_cons hp)) (okN_d ho) (star_cons hp) rfl) rfl) fun σ H Q ⟨B, G, ρ, er, q⟩ => ?_
  simp only [ev] at q
  refine ⟨B, G, ρ, er, ?_⟩
  cases e1 : ev P e ρ with
  | ok d =>
    rw [e1] at q
    intro v H1 G1 x1 rv
    refine mk_row (H := H1) (v := v) (Q := fun cls d H' => cls = .ref C ∧ ∃ (dd : Addr) (fs : List (Str × V)) (v : V), d = some dd ∧ H' dd = some (.xd fs) ∧ fs.lookup ("row" : Str) = some v ∧ Q v H') r1 r2 fun a dx na nd hda => ?_
    obtain ⟨m1, m2⟩ := made_row (mg := X.mg) (c := c) (er.ext x1).sub na nd hda h1 rv
    exact ⟨rfl, dx, [(("row" : Str), v)], v, rfl, upd_same, by simp [List.lookup], q v _ G1 (x1.trans m1) rv⟩
  | exc z w => rw [e1] at q; exact q
  | bad => rw [e1] at q; exact q
end
end NW
end

section
set_option maxHeartbeats 8000000
namespace NW
open PySem PySem.Spec PyProof.Rows L2

section
variable {T : Tx} {P : Pg} {n : Nat}
theorem Snd.plain {X : Cx} {W : WX} {e : E} {x : Expr} (ht : tstE x = true) (h : PE X x (tK X P W (kd T e) e)) : Snd X T P W e x :=
  ⟨h, fun _ => s_tst ht h, fun op vs pos z => by subst z; simp [tstE] at ht⟩
mutual
theorem snd_E : ∀ (e : E) (X : Cx) (W : WX) (x : Expr), Gd X T P n W → okE T n X.N X.env.scope e x = true → Snd X T P W e x
  | .var i, X, W, x, g, h => by
    cases x with
    | Name nm pos => exact .plain rfl (s_var h)
    | _ => simp [okE] at h
  | .tv i, X, W, x, g, h => by
    cases x with
    | Name nm pos => exact .plain rfl (s_tv h)
    | _ => simp [okE] at h
  | .non, X, W, x, g, h => by
    cases x with
    | Constant c k pos =>
      cases c with
      | none => exact .plain rfl (s_lit (d := .none) pe_non (fun _ => by simp only [ev]) fun _ => .non)
      | _ => simp [okE] at h
    | _ => simp [okE] at h
  | .bl b, X, W, x, g, h => by
    cases x with
    | Constant c k pos =>
      cases c with
      | bool c =>
        simp only [okE, beq_iff_eq] at h
        subst h
        exact .plain rfl (s_lit (d := .bool b) pe_bl (fun _ => by simp only [ev]) fun _ => .bl b)
      | _ => simp [okE] at h
    | _ => simp [okE] at h
  | .int i, X, W, x, g, h => by
    cases x with
    | Constant c k pos =>
      cases c with
      | int c =>
        simp only [okE, beq_iff_eq] at h
        subst h
        exact .plain rfl (s_lit (d := .int i) pe_int (fun _ => by simp only [ev]) fun _ => .int i)
      | _ => simp [okE] at h
    | _ => simp [okE] at h
  | .str i, X, W, x, g, h => by
    cases x with
    | Constant c k pos =>
      cases c with
      | str c =>
        simp only [okE, decide_eq_true_eq] at h
        subst h
        exact .plain rfl (s_lit (d := .str i) pe_str (fun _ => by simp only [ev]) fun _ => .str i)
      | _ => simp [okE] at h
    | _ => simp [okE] at h
  | .con k, X, W, x, g, h => by
    cases x with
    | Name nm pos =>
      simp only [okE, Bool.and_eq_true, decide_eq_true_eq] at h
      obtain ⟨u, v, h1, h2, h3⟩ := g.cons k nm h.1.1
      have g1 : X.env.scope.names.lookup nm = some .globalImplicit := of_decide_eq_true h.1.2
      exact .plain rfl (s_lit (d := P.C k) (pe_glob g1 h1 h2 (okN_d h.2)) (fun _ => by simp only [ev]) h3)
    | _ => simp [okE] at h
  | .bin o a b, X, W, x, g, h => by
    cases x with
    | BinOp p op q pos =>
      simp only [okE, Bool.and_eq_true, decide_eq_true_eq] at h
      obtain ⟨⟨rfl, ha⟩, hb⟩ := h
      exact .plain rfl (s_bin (snd_E a X W _ g ha).pe (snd_E b X W _ g hb).pe)
    | _ => simp [okE] at h
  | .neg a, X, W, x, g, h => by
    cases x with
    | UnaryOp op p pos =>
      cases op with
      | USub =>
        simp only [okE] at h
        have z := s_neg (pos := pos) (snd_E a X W _ g h).pe
        exact ⟨z, fun _ => PT.imp (pt_truth (weakE z) (fun _ => rfl)) fun σ H Q ⟨B, G, ρ, er, q⟩ => by
          refine bndT er q fun d v H1 G1 x1 r1 er1 q1 => ?_
          cases h1 : truD d with
          | ok r => rw [h1] at q1; exact ⟨r, tru_of er1.sub r1 h1, q1 H1 G1 (Ext.refl er1.sub)⟩
          | exc c z => exact absurd h1 (tru_ne d c z)
          | bad => rw [h1] at q1; exact q1.elim, fun _ _ _ e => by cases e⟩
      | _ => simp [okE] at h
    | _ => simp [okE] at h
  | .cmp o a b, X, W, x, g, h => by
    cases x with
    | Compare p ops qs pos =>
      match ops, qs, h with
      | [op], [q], h =>
        simp only [okE, Bool.and_eq_true, decide_eq_true_eq] at h
        obtain ⟨⟨⟨rfl, hp⟩, ha⟩, hb⟩ := h
        exact ⟨s_cmp g.room hp (snd_E a X W _ g ha).pe (snd_E b X W _ g hb).pe, fun _ => s_cmpT g.room hp (snd_E a X W _ g ha).pe (snd_E b X W _ g hb).pe, fun _ _ _ e => by cases e⟩
      | [], _, h => simp [okE] at h
      | _ :: _ :: _, _, h => simp [okE] at h
      | [_], [], h => simp [okE] at h
      | [_], _ :: _ :: _, h => simp [okE] at h
    | _ => simp [okE] at h
  | .chn o p' a b c, X, W, x, g, h => by
    cases x with
    | Compare p ops qs pos =>
      match ops, qs, h with
      | [op, op'], [q, r], h =>
        simp only [okE, Bool.and_eq_true, decide_eq_true_eq] at h
        obtain ⟨⟨⟨⟨⟨rfl, rfl⟩, hp⟩, ha⟩, hb⟩, hc⟩ := h
        exact ⟨s_chn g.room hp (snd_E a X W _ g ha).pe (snd_E b X W _ g hb).pe (snd_E c X W _ g hc).pe, fun _ => s_chnT g.room hp (snd_E a X W _ g ha).pe (snd_E b X W _ g hb).pe (snd_E c X W _ g hc).pe, fun _ _ _ e => by cases e⟩
      | [], _, h => simp [okE] at h
      | [_], _, h => simp [okE] at h
      | _ :: _ :: _ :: _, _, h => simp [okE] at h
      | [_, _], [], h => simp [okE] at h
      | [_, _], [_], h => simp [okE] at h
      | [_, _], _ :: _ :: _ :: _, h => simp [okE] at h
    | _ => simp [okE] at h
  | .and a b, X, W, x, g, h => by
    cases x with
    | BoolOp op vs pos =>
      match op, vs, h with
      | .And, p :: q :: r, h =>
        simp only [okE, Bool.and_eq_true, Bool.not_eq_true', bne_iff_ne] at h
        obtain ⟨⟨⟨⟨⟨i1, i2⟩, k1⟩, k2⟩, ha⟩, hb⟩ := h
        have A := snd_E a X W p g ha
        have PW' : PE X (.BoolOp .And (q :: r) pos) (tK X P W (kd T b) b) ∧ PW X (.BoolOp .And (q :: r) pos) (tT X P W b) := by
          match r, hb with
          | [], hb =>
            have Bb := snd_E b X W q g hb
            exact ⟨pe_one Bb.pe, pw_and1 (Bb.pt i2)⟩
          | s :: r, hb =>
            have Bb := snd_E b X W _ g hb
            exact ⟨Bb.pe, Bb.pw _ _ _ rfl⟩
        have w := w_and (A.pt i1) PW'.2
        exact ⟨s_and k1 k2 A.pe PW'.1, fun _ => w.pt, fun _ _ _ e => by cases e; exact w⟩
      | .Or, _, h => simp [okE] at h
      | .And, [], h => simp [okE] at h
      | .And, [_], h => simp [okE] at h
    | _ => simp [okE] at h
  | .or a b, X, W, x, g, h => by
    cases x with
    | BoolOp op vs pos =>
      match op, vs, h with
      | .Or, p :: q :: r, h =>
        simp only [okE, Bool.and_eq_true, Bool.not_eq_true', bne_iff_ne] at h
        obtain ⟨⟨⟨⟨⟨i1, i2⟩, k1⟩, k2⟩, ha⟩, hb⟩ := h
        have A := snd_E a X W p g ha
        have PW' : PE X (.BoolOp .Or (q :: r) pos) (tK X P W (kd T b) b) ∧ PW X (.BoolOp .Or (q :: r) pos) (tT X P W b) := by
          match r, hb with
          | [], hb =>
            have Bb := snd_E b X W q g hb
            exact ⟨pe_one Bb.pe, pw_or1 (Bb.pt i2)⟩
          | s :: r, hb =>
            have Bb := snd_E b X W _ g hb
            exact ⟨Bb.pe, Bb.pw _ _ _ rfl⟩
        have w := w_or (A.pt i1) PW'.2
        exact ⟨s_or k1 k2 A.pe PW'.1, fun _ => w.pt, fun _ _ _ e => by cases e; exact w⟩
      | .And, _, h => simp [okE] at h
      | .Or, [], h => simp [okE] at h
      | .Or, [_], h => simp [okE] at h
    | _ => simp [okE] at h
  | .not a, X, W, x, g, h => by
    cases x with
    | UnaryOp op p pos =>
      cases op with
      | Not =>
        simp only [okE, Bool.and_eq_true, Bool.not_eq_true'] at h
        have A := snd_E a X W p g h.2
        exact ⟨s_not A.pe, fun _ => s_notT (A.pt h.1), fun _ _ _ e => by cases e⟩
      | _ => simp [okE] at h
    | _ => simp [okE] at h
  | .ife c a b, X, W, x, g, h => by
    cases x with
    | IfExp t p q pos =>
      simp only [okE, Bool.and_eq_true, Bool.not_eq_true', bne_iff_ne] at h
      obtain ⟨⟨⟨⟨⟨i1, hc⟩, ha⟩, hb⟩, k1⟩, k2⟩ := h
      exact ⟨s_ife k1 k2 ((snd_E c X W _ g hc).pt i1) (snd_E a X W _ g ha).pe (snd_E b X W _ g hb).pe, fun z => by simp [isIfe] at z, fun _ _ _ e => by cases e⟩
    | _ => simp [okE] at h
  | .ix a i, X, W, x, g, h => by
    cases x with
    | Subscript p q pos =>
      simp only [okE, Bool.and_eq_true] at h
      exact .plain rfl (s_ix h.1.1 (snd_E a X W _ g h.1.2).pe (snd_E i X W _ g h.2).pe)
    | _ => simp [okE] at h
  | .sl a lo hi, X, W, x, g, h => by
    cases x with
    | Subscript p q pos =>
      cases q with
      | Slice l u st p2 =>
        cases st with
        | none =>
          simp only [okE, Bool.and_eq_true] at h
          obtain ⟨⟨ha, hl⟩, hh⟩ := h
          have A := (snd_E a X W _ g ha).pe
          exact .plain rfl (s_sl A (s_po hl fun l z => (snd_E lo X W l g z).pe) (s_po hh fun l z => (snd_E hi X W l g z).pe))
        | some _ => simp [okE] at h
      | _ => simp [okE] at h
    | _ => simp [okE] at h
  | .no, X, W, x, g, h => by cases x <;> simp [okE] at h
  | .iss _ _ _ _ _, X, W, x, g, h => by cases x <;> simp [okE] at h
  | .xrw _ _ _ _, X, W, x, g, h => by cases x <;> simp [okE] at h
  | .nrw c e, X, W, x, g, h => by
    cases x with
    | Attribute b a pos =>
      cases b with
      | Call f xs kws cpos =>
        cases f with
        | Name nm np =>
          match xs, kws, h with
          | [y], [], h =>
            simp only [okE, Bool.and_eq_true, decide_eq_true_eq, bne_iff_ne] at h
            obtain ⟨⟨⟨⟨⟨⟨⟨⟨rfl, rfl⟩, h3⟩, h4⟩, h5⟩, h6⟩, h7⟩, h8⟩, h9⟩ := h
            exact .plain rfl (s_nrw g h3 h4 h5 h6 h7 h8 (snd_E e X W y g h9).pe)
          | [], _, h => simp [okE] at h
          | _ :: _ :: _, _, h => simp [okE] at h
          | [_], _ :: _, h => simp [okE] at h
        | _ => simp [okE] at h
      | _ => simp [okE] at h
    | _ => simp [okE] at h
  | .tup es, X, W, x, g, h => by
    cases x with
    | Tuple xs k pos =>
      simp only [okE] at h
      exact .plain rfl (s_tup (snd_A es X W _ _ g h))
    | _ => simp [okE] at h
  | .lst es, X, W, x, g, h => by
    cases x with
    | List xs pos =>
      simp only [okE] at h
      exact .plain rfl (s_lst (snd_A es X W _ _ g h))
    | _ => simp [okE] at h
  | .cal k es, X, W, x, g, h => by
    cases x with
    | Call f xs kws pos =>
      cases f with
      | Name nm np =>
        match xs, kws, h with
        | y :: ys, [], h =>
          simp only [okE] at h
          cases hs : T.fns[k]? with
          | none => rw [hs] at h; cases h
          | some sg =>
            rw [hs] at h
            simp only [Bool.and_eq_true, decide_eq_true_eq] at h
            obtain ⟨⟨⟨⟨⟨⟨⟨h1, h2⟩, h3⟩, h4⟩, h5⟩, h51⟩, hcl⟩, h6⟩ := h
            have z := s_cal (pos := pos) (np := np) g hs h1 h2 h3 h4 h51 hcl h5 (okEs_len h6) (okEs_plain h6) (snd_A es X W _ _ g h6)
            have e : kd T (.cal k es) = sg.fr := by simp only [kd, hs]
            exact .plain rfl (by rw [e]; exact z)
        | [], _, h => simp [okE] at h
        | _ :: _, _ :: _, h => simp [okE] at h
      | _ => simp [okE] at h
    | _ => simp [okE] at h
  | .calk k es w e, X, W, x, g, h => by
    cases x with
    | Call f xs kws pos =>
      cases f with
      | Name nm np =>
        match xs, kws, h with
        | y :: ys, [⟨a, z, kp⟩], h =>
          simp only [okE] at h
          cases hs : T.fns[k]? with
          | none => rw [hs] at h; cases h
          | some sg =>
            rw [hs] at h
            simp only [Bool.and_eq_true, decide_eq_true_eq, beq_iff_eq, bne_iff_ne] at h
            obtain ⟨⟨⟨⟨⟨⟨⟨⟨⟨⟨⟨⟨h1, h2⟩, h3⟩, h4⟩, h5⟩, h6⟩, rfl⟩, h8⟩, hcl⟩, h9⟩, h10⟩, h11⟩, h12⟩ := h
            exact .plain rfl (s_calk (pos := pos) (np := np) g hs h1 h2 h3 h4 h6 hcl h5 h8 (okEs_len h9) (okEs_plain h9) (snd_A es X W _ _ g h9) (stillE h12 (snd_E e X W z g h11).pe))
        | [], _, h => simp [okE] at h
        | _ :: _, [], h => simp [okE] at h
        | _ :: _, _ :: _ :: _, h => simp [okE] at h
      | _ => simp [okE] at h
    | _ => simp [okE] at h
  | .bi f es, X, W, x, g, h => by
    cases x with
    | Call fn xs kws pos =>
      cases fn with
      | Name nm np =>
        match xs, kws, h with
        | y :: ys, [], h =>
          simp only [okE, Bool.and_eq_true, decide_eq_true_eq] at h
          obtain ⟨⟨⟨rfl, h2⟩, h3⟩, h4⟩ := h
          exact .plain rfl (s_bi g h2 h3 (okEs_plain h4) (snd_A es X W _ _ g h4))
        | [], _, h => simp [okE] at h
        | _ :: _, _ :: _, h => simp [okE] at h
      | _ => simp [okE] at h
    | _ => simp [okE] at h
  | .isi t a, X, W, x, g, h => by
    cases x with
    | Call fn xs kws pos =>
      cases fn with
      | Name nm np =>
        match xs, kws, h with
        | [], _, h => simp [okE] at h
        | [_], _, h => simp [okE] at h
        | _ :: _ :: _ :: _, _, h => simp [okE] at h
        | [_, _], _ :: _, h => simp [okE] at h
        | [y, w], [], h =>
          cases w with
          | Name z zp =>
            simp only [okE, Bool.and_eq_true, decide_eq_true_eq] at h
            obtain ⟨⟨⟨⟨⟨⟨h1, h2⟩, h3⟩, h4⟩, h5⟩, h6⟩, h7⟩ := h
            exact .plain rfl (s_isi g h1 h2 h3 h4 h5 h6 (snd_E a X W _ g h7).pe)
          | _ => simp [okE] at h
      | _ => simp [okE] at h
    | _ => simp [okE] at h
  | .m0 m a, X, W, x, g, h => by
    cases x with
    | Call fn xs kws pos =>
      cases fn with
      | Attribute o f apos =>
        match xs, kws, h with
        | [], [], h =>
          simp only [okE, Bool.and_eq_true, decide_eq_true_eq] at h
          obtain ⟨⟨⟨rfl, h2⟩, h3⟩, h4⟩ := h
          exact .plain rfl (s_m0 h2 h3 (snd_E a X W _ g h4).pe)
        | [], _ :: _, h => simp [okE] at h
        | _ :: _, _, h => simp [okE] at h
      | _ => simp [okE] at h
    | _ => simp [okE] at h
  | .m1 m a b, X, W, x, g, h => by
    cases x with
    | Call fn xs kws pos =>
      cases fn with
      | Attribute o f apos =>
        match xs, kws, h with
        | [y], [], h =>
          simp only [okE, Bool.and_eq_true, decide_eq_true_eq] at h
          obtain ⟨⟨⟨⟨⟨rfl, h2⟩, h3⟩, h4⟩, h5⟩, h6⟩ := h
          exact .plain rfl (s_m1 h2 h3 h4 (snd_E a X W _ g h5).pe (snd_E b X W _ g h6).pe)
        | [], _, h => simp [okE] at h
        | [_], _ :: _, h => simp [okE] at h
        | _ :: _ :: _, _, h => simp [okE] at h
      | _ => simp [okE] at h
    | _ => simp [okE] at h
  | .lc own tg it tt elt, X, W, x, g, h => by
    cases x with
    | ListComp y cs scope pos =>
      match cs, h with
      | [⟨tg', iter, ifs, asy⟩], h =>
        simp only [okE, Bool.and_eq_true, bne_iff_ne, decide_eq_true_eq] at h
        obtain ⟨⟨⟨⟨⟨⟨⟨⟨rfl, h1⟩, h2⟩, h3⟩, h4⟩, h5⟩, h6⟩, h7⟩, h8⟩ := h
        have hif : ifs = [] → tt = .bl true := fun e => by
          subst e
          have h7' : tyes tt = true := h7
          cases tt <;> simp [tyes] at h7'
          subst h7'
          rfl
        refine .plain rfl (s_lc g h1 h2 h3 h6 hif (snd_I it X W _ _ g h4) (fun s H C cl fp => s_g (X := X.blk s H scope (compEnvC scope cl C X.env) fp) g.calm g.nd h5) (fun s H C cl fp => ?_)
          (fun s H C cl fp => (snd_E elt (X.blk s H scope (compEnvC scope cl C X.env) fp) _ _ (g.blk s H scope _ fp) h8).pe))
        match ifs, h7 with
        | [], _ => exact pts_nil
        | [c], h7 =>
          simp only [Bool.and_eq_true, Bool.not_eq_true'] at h7
          exact pts_one ((snd_E tt (X.blk s H scope (compEnvC scope cl C X.env) fp) _ _ (g.blk s H scope _ fp) h7.2).pt h7.1)
        | _ :: _ :: _, h7 => cases h7
      | [], h => simp [okE] at h
      | _ :: _ :: _, h => simp [okE] at h
    | _ => simp [okE] at h
theorem snd_A : ∀ (es : Es) (X : Cx) (W : WX) (ws : List Bool) (xs : List Expr), Gd X T P n W → okEs T n X.N X.env.scope ws es xs = true → PA X xs (tA X P W ws es)
  | .nil, X, W, ws, xs, g, h => by
    cases xs with
    | nil =>
      exact PA.imp pa_nil fun σ H Q ⟨B, G, ρ, er, q⟩ => by
        simp only [evs] at q
        exact q [] H G (Ext.refl er.sub) .nil
    | cons _ _ => simp [okEs] at h
  | .cons e r, X, W, ws, xs, g, h => by
    cases xs with
    | nil => simp [okEs] at h
    | cons x xs =>
      simp only [okEs, Bool.and_eq_true, Bool.or_eq_true, bne_iff_ne] at h
      obtain ⟨⟨⟨h1, h2⟩, h3⟩, h4⟩ := h
      have A := (snd_E e X W _ g h2).pe
      have R := snd_A r X W _ _ g h4
      by_cases hw : ws.headD false = true
      · refine PA.imp (pa_cons (weakE A) R (star_cons h1)) fun σ H Q ⟨B, G, ρ, er, q⟩ => ?_
        simp only [evs] at q
        refine bndA er q fun d v H1 G1 x1 r1 er1 q1 => ?_
        refine ⟨B, G1, ρ, er1, ?_⟩
        cases e1 : evs P r ρ with
        | ok ds =>
          rw [e1] at q1
          intro vs H2 G2 x2 r2
          exact q1 (v :: vs) H2 G2 x2 (.cons (by rw [if_pos hw]; exact RW.ext x2 r1) r2)
        | exc c z => rw [e1] at q1; exact q1
        | bad => rw [e1] at q1; exact q1
      · have hk : kd T e ≠ 1 := h3.resolve_right hw
        refine PA.imp (pa_cons (stillE hk A) R (star_cons h1)) fun σ H Q ⟨B, G, ρ, er, q⟩ => ?_
        simp only [evs] at q
        refine bndA er q fun d v H1 G1 x1 r1 er1 q1 => ?_
        refine ⟨B, G1, ρ, er1, ?_⟩
        cases e1 : evs P r ρ with
        | ok ds =>
          rw [e1] at q1
          intro vs H2 G2 x2 r2
          exact q1 (v :: vs) H2 G2 x2 (.cons (by rw [if_neg hw]; exact Rep.mono x2.stl r1) r2)
        | exc c z => rw [e1] at q1; exact q1
        | bad => rw [e1] at q1; exact q1
theorem snd_I : ∀ (it : NW.It) (X : Cx) (W : WX) (tg x : Expr), Gd X T P n W → okI T n X.N X.env.scope it x = true → PI X tg x (tI X P W it)
  | .seq e, X, W, tg, x, g, h => by
    simp only [okI, Bool.and_eq_true, bne_iff_ne] at h
    exact s_seq h.2 (snd_E e X W _ g h.1).pe
  | .lent i, X, W, tg, x, g, h => by
    cases x with
    | Name nm pos => exact s_lent h
    | _ => simp [okI] at h
  | .own i, X, W, tg, x, g, h => by
    cases x with
    | Name nm pos => exact s_own h
    | _ => simp [okI] at h
  | .rng1 a, X, W, tg, x, g, h => by
    cases x with
    | Call fn xs kws pos =>
      cases fn with
      | Name nm np =>
        match xs, kws, h with
        | [y], [], h =>
          simp only [okI, Bool.and_eq_true, decide_eq_true_eq] at h
          obtain ⟨⟨⟨h1, h2⟩, h3⟩, h4⟩ := h
          exact s_rng1 g h1 h2 h3 (snd_E a X W _ g h4).pe
        | [], _, h => simp [okI] at h
        | [_], _ :: _, h => simp [okI] at h
        | _ :: _ :: _, _, h => simp [okI] at h
      | _ => simp [okI] at h
    | _ => simp [okI] at h
  | .rng2 a b, X, W, tg, x, g, h => by
    cases x with
    | Call fn xs kws pos =>
      cases fn with
      | Name nm np =>
        match xs, kws, h with
        | [y, z], [], h =>
          simp only [okI, Bool.and_eq_true, decide_eq_true_eq] at h
          obtain ⟨⟨⟨⟨⟨h1, h2⟩, h3⟩, h4⟩, h5⟩, h6⟩ := h
          exact s_rng2 g h1 h2 h3 h4 (snd_E a X W _ g h5).pe (snd_E b X W _ g h6).pe
        | [], _, h => simp [okI] at h
        | [_], _, h => simp [okI] at h
        | [_, _], _ :: _, h => simp [okI] at h
        | _ :: _ :: _ :: _, _, h => simp [okI] at h
      | _ => simp [okI] at h
    | _ => simp [okI] at h
end
end
end NW
end

section
set_option maxHeartbeats 8000000
/-! Statements: the look, the readings, that they hold. -/
namespace NW
open PySem PySem.Spec PyProof.Rows L2

def isLc : Expr → Bool
  | .ListComp _ _ _ _ => true
  | .SetComp _ _ _ _ => true
  | .DictComp _ _ _ _ _ => true
  | _ => false
def isTup : Expr → Bool
  | .Tuple _ _ _ => true
  | _ => false
/-- a store of a comprehension into a name -/
def lcSwap (sc : Scope) (x : Str) (py : Pos) : Expr → Bool
  | .ListComp _ _ scope pos => (locB sc x && (py.line == pos.line) && !(scope.names.any fun (n, k) => n == x && (k == .local || k == .cell))) || decide (sc.names.lookup x = some .cell)
  | .SetComp _ _ _ _ => false
  | .DictComp _ _ _ _ _ => false
  | _ => true
def stoB (sc : Scope) (x : Str) : Bool := match sc.names.lookup x with
  | some .local => true
  | some .cell => true
  | _ => false
/-- a target of a loop or a store: a cell, too -/
def okGS (N : List Str) (sc : Scope) : Tg → Expr → Bool
  | .nm i, .Name x _ => decide (N[i]? = some x) && stoB sc x
  | .tp is, .Tuple es _ _ => decide (is.length = es.length) && (is.zip es).all fun p => match p.2 with
    | .Name x _ => decide (N[p.1]? = some x) && stoB sc x
    | _ => false
  | _, _ => false
/-- a name -/
def nmE (x : Str) : Expr → Bool
  | .Name y _ => decide (y = x)
  | _ => false
theorem nmE_ok {x : Str} {e : Expr} (h : nmE x e = true) : ∃ p, e = .Name x p := by
  cases e <;> simp only [nmE] at h <;> try (cases h; done)
  have h := of_decide_eq_true h
  subst h
  exact ⟨_, rfl⟩
def strC : Expr → Bool
  | .Constant c _ _ => (match c with
    | .str _ => true
    | _ => false)
  | _ => false
theorem strC_ok {e : Expr} (h : strC e = true) : ∃ m k p, e = .Constant (.str m) k p := by
  cases e <;> simp only [strC] at h <;> try (cases h; done)
  rename_i c k p
  cases c <;> simp only at h <;> try (cases h; done)
  exact ⟨_, _, _, rfl⟩
/-- c('m') -/
def mk1 (c : Str) : Expr → Bool
  | .Call f as kws _ => nmE c f && (match as with
    | [a] => strC a
    | _ => false) && kws.isEmpty
  | _ => false
theorem mk1_ok {c : Str} {e : Expr} (h : mk1 c e = true) : ∃ np m k p2 cp, e = .Call (.Name c np) [.Constant (.str m) k p2] [] cp := by
  cases e <;> simp only [mk1] at h <;> try (cases h; done)
  rename_i f as kws cp
  rw [Bool.and_eq_true, Bool.and_eq_true] at h
  obtain ⟨⟨h1, h2⟩, h3⟩ := h
  obtain ⟨np, rfl⟩ := nmE_ok h1
  cases as with
  | nil => cases h2
  | cons a r =>
    cases r with
    | cons _ _ => cases h2
    | nil =>
      obtain ⟨m, k, p2, rfl⟩ := strC_ok h2
      cases kws with
      | cons _ _ => cases h3
      | nil => exact ⟨_, _, _, _, _, rfl⟩
def rais1 (c : Str) : Stmt → Bool
  | .Raise e u _ => (match e with
    | some e => mk1 c e
    | none => false) && u.isNone
  | _ => false
theorem rais1_ok {c : Str} {st : Stmt} (h : rais1 c st = true) : ∃ np m k p2 cp pos, st = .Raise (some (.Call (.Name c np) [.Constant (.str m) k p2] [] cp)) none pos := by
  cases st <;> simp only [rais1] at h <;> try (cases h; done)
  rename_i e u pos
  rw [Bool.and_eq_true] at h
  cases e with
  | none => cases h.1
  | some e =>
    obtain ⟨np, m, k, p2, cp, rfl⟩ := mk1_ok h.1
    cases u with
    | some _ => cases h.2
    | none => exact ⟨_, _, _, _, _, _, rfl⟩
/-- x = e -/
def asg1 : Stmt → Option (Str × Expr)
  | .Assign ts y _ => (match ts with
    | [t] => (match t with
      | .Name z _ => some (z, y)
      | _ => none)
    | _ => none)
  | _ => none
theorem asg1_ok {st : Stmt} {z : Str} {y : Expr} (h : asg1 st = some (z, y)) : ∃ zp pos, st = .Assign [.Name z zp] y pos := by
  cases st <;> simp only [asg1] at h <;> try (cases h; done)
  rename_i ts w pos
  cases ts with
  | nil => cases h
  | cons t r =>
    cases r with
    | cons _ _ => cases h
    | nil =>
      cases t <;> simp only at h <;> try (cases h; done)
      cases h
      exact ⟨_, _, rfl⟩
def asgL : List Stmt → Option (Str × Expr)
  | [s] => asg1 s
  | _ => none
theorem asgL_ok {b : List Stmt} {z : Str} {y : Expr} (h : asgL b = some (z, y)) : ∃ zp pos, b = [.Assign [.Name z zp] y pos] := by
  cases b with
  | nil => cases h
  | cons s r =>
    cases r with
    | cons _ _ => cases h
    | nil =>
      obtain ⟨zp, pos, rfl⟩ := asg1_ok (st := s) h
      exact ⟨_, _, rfl⟩
def exp1 : Stmt → Option Expr
  | .Expr y _ => some y
  | _ => none
def expr1 : List Stmt → Option Expr
  | [s] => exp1 s
  | _ => none
theorem expr1_ok {b : List Stmt} {y : Expr} (h : expr1 b = some y) : ∃ p, b = [.Expr y p] := by
  cases b with
  | nil => cases h
  | cons s r =>
    cases r with
    | cons _ _ => cases h
    | nil =>
      have h' : exp1 s = some y := h
      cases s <;> simp only [exp1] at h' <;> try (cases h'; done)
      cases h'
      exact ⟨_, rfl⟩
/-- isinstance(x, C) -/
def isC1 (x : Str) : Expr → Option Str
  | .Call f as kws _ => (match as with
    | [a, b] => if nmE "isinstance" f && nmE x a && kws.isEmpty then (match b with
      | .Name C _ => some C
      | _ => none) else none
    | _ => none)
  | _ => none
theorem isC1_ok {x C : Str} {e : Expr} (h : isC1 x e = some C) : ∃ np xp cp pos, e = .Call (.Name "isinstance" np) [.Name x xp, .Name C cp] [] pos := by
  cases e <;> simp only [isC1] at h <;> try (cases h; done)
  rename_i f as kws pos
  cases as with
  | nil => cases h
  | cons a r =>
    cases r with
    | nil => cases h
    | cons b r =>
      cases r with
      | cons _ _ => cases h
      | nil =>
        simp only at h
        split at h
        · rename_i q
          rw [Bool.and_eq_true, Bool.and_eq_true] at q
          obtain ⟨np, rfl⟩ := nmE_ok q.1.1
          obtain ⟨xp, rfl⟩ := nmE_ok q.1.2
          cases kws with
          | cons _ _ => cases q.2
          | nil =>
            cases b <;> simp only at h <;> try (cases h; done)
            cases h
            exact ⟨_, _, _, _, rfl⟩
        · cases h
def isCs (x : Str) : List Expr → Option (List Str)
  | [] => some []
  | e :: r => match isC1 x e, isCs x r with
    | some C, some Cs => some (C :: Cs)
    | _, _ => none
def tupE : Expr → Option (List Expr)
  | .Tuple xs _ _ => some xs
  | _ => none
theorem tupE_ok {e : Expr} {xs : List Expr} (h : tupE e = some xs) : ∃ k p, e = .Tuple xs k p := by
  cases e <;> simp only [tupE] at h <;> try (cases h; done)
  cases h
  exact ⟨_, _, rfl⟩
/-- z + (..) -/
def addT (z : Str) : Expr → Option (List Expr)
  | .BinOp a o b _ => if nmE z a && decide (o = .Add) then tupE b else none
  | _ => none
theorem addT_ok {z : Str} {e : Expr} {xs : List Expr} (h : addT z e = some xs) : ∃ zp k p pos, e = .BinOp (.Name z zp) .Add (.Tuple xs k p) pos := by
  cases e <;> simp only [addT] at h <;> try (cases h; done)
  split at h
  · rename_i q
    rw [Bool.and_eq_true, decide_eq_true_eq] at q
    obtain ⟨zp, rfl⟩ := nmE_ok q.1
    obtain ⟨k, p, rfl⟩ := tupE_ok h
    rw [q.2]
    exact ⟨_, _, _, _, rfl⟩
  · cases h
/-- z = (..); z = z + (..) -/
def two1 : List Stmt → Option (Str × List Expr × List Expr)
  | [s1, s2] => (match asg1 s1, asg1 s2 with
    | some (z, a), some (z', b) => (match tupE a, addT z b with
      | some xs, some ys => if z = z' then some (z, xs, ys) else none
      | _, _ => none)
    | _, _ => none)
  | _ => none
theorem two1_ok {b : List Stmt} {z : Str} {xs ys : List Expr} (h : two1 b = some (z, xs, ys)) : ∃ zp k1 p1 a1 zp' zq k2 p2 p3 a2, b = [.Assign [.Name z zp] (.Tuple xs k1 p1) a1, .Assign [.Name z zp'] (.BinOp (.Name z zq) .Add (.Tuple ys k2 p2) p3) a2] := by
  cases b with
  | nil => cases h
  | cons s1 r =>
    cases r with
    | nil => cases h
    | cons s2 r =>
      cases r with
      | cons _ _ => cases h
      | nil =>
        simp only [two1] at h
        cases q1 : asg1 s1 with
        | none => rw [q1] at h; cases h
        | some p =>
          cases q2 : asg1 s2 with
          | none => rw [q1, q2] at h; cases h
          | some p' =>
            obtain ⟨za, a⟩ := p
            obtain ⟨zb, b⟩ := p'
            rw [q1, q2] at h
            simp only at h
            cases q3 : tupE a with
            | none => rw [q3] at h; cases h
            | some u =>
              cases q4 : addT za b with
              | none => rw [q3, q4] at h; cases h
              | some v =>
                rw [q3, q4] at h
                simp only at h
                split at h
                · rename_i e
                  cases h
                  subst e
                  obtain ⟨_, _, rfl⟩ := asg1_ok q1
                  obtain ⟨_, _, rfl⟩ := asg1_ok q2
                  obtain ⟨_, _, rfl⟩ := tupE_ok q3
                  obtain ⟨_, _, _, _, rfl⟩ := addT_ok q4
                  exact ⟨_, _, _, _, _, _, _, _, _, _, rfl⟩
                · cases h
/-- except c as x: .. -/
def hdA (c : Str) : ExceptHandler → Option (Str × List Stmt)
  | .ExceptHandler t n b _ => (match t, n with
    | some t, some n => if nmE c t then some (n, b) else none
    | _, _ => none)
theorem hdA_ok {c x : Str} {h : ExceptHandler} {b : List Stmt} (e : hdA c h = some (x, b)) : ∃ np hp, h = .ExceptHandler (some (.Name c np)) (some x) b hp := by
  cases h with
  | ExceptHandler t n b' pos =>
    cases t with
    | none => cases e
    | some t =>
      cases n with
      | none => cases e
      | some n =>
        simp only [hdA] at e
        split at e
        · rename_i q
          obtain ⟨np, rfl⟩ := nmE_ok q
          cases e
          exact ⟨_, _, rfl⟩
        · cases e
def tryA (c : Str) : Stmt → Option (List Stmt × Str × List Stmt)
  | .Try b hs o f _ => (match hs with
    | [h] => if o.isEmpty && f.isEmpty then (match hdA c h with
      | some p => some (b, p)
      | none => none) else none
    | _ => none)
  | _ => none
theorem tryA_ok {c : Str} {st : Stmt} {b s : List Stmt} {x : Str} (e : tryA c st = some (b, x, s)) : ∃ np hp tp, st = .Try b [.ExceptHandler (some (.Name c np)) (some x) s hp] [] [] tp := by
  cases st <;> simp only [tryA] at e <;> try (cases e; done)
  rename_i b' hs o f tp
  cases hs with
  | nil => cases e
  | cons h r =>
    cases r with
    | cons _ _ => cases e
    | nil =>
      simp only at e
      split at e
      · rename_i q
        rw [Bool.and_eq_true] at q
        cases o with
        | cons _ _ => cases q.1
        | nil =>
          cases f with
          | cons _ _ => cases q.2
          | nil =>
            cases qh : hdA c h with
            | none => rw [qh] at e; cases e
            | some p =>
              rw [qh] at e
              cases e
              obtain ⟨np, hp, rfl⟩ := hdA_ok qh
              exact ⟨_, _, _, rfl⟩
      · cases e
/-- except c: z = w -/
def hd1 (c : Str) : ExceptHandler → Option (Str × Expr)
  | .ExceptHandler t n b _ => (match t with
    | some t => if nmE c t && n.isNone then asgL b else none
    | none => none)
theorem hd1_ok {c : Str} {h : ExceptHandler} {z : Str} {w : Expr} (e : hd1 c h = some (z, w)) : ∃ np zp ap hp, h = .ExceptHandler (some (.Name c np)) none [.Assign [.Name z zp] w ap] hp := by
  cases h with
  | ExceptHandler t n b pos =>
    cases t with
    | none => cases e
    | some t =>
      simp only [hd1] at e
      split at e
      · rename_i q
        rw [Bool.and_eq_true] at q
        obtain ⟨np, rfl⟩ := nmE_ok q.1
        cases n with
        | some _ => cases q.2
        | none =>
          obtain ⟨zp, ap, rfl⟩ := asgL_ok e
          exact ⟨_, _, _, _, rfl⟩
      · cases e
def try1 (c : Str) : Stmt → Option (List Stmt × Str × Expr)
  | .Try b hs o f _ => (match hs with
    | [h] => if o.isEmpty && f.isEmpty then (match hd1 c h with
      | some p => some (b, p)
      | none => none) else none
    | _ => none)
  | _ => none
theorem try1_ok {c : Str} {st : Stmt} {b : List Stmt} {z : Str} {w : Expr} (e : try1 c st = some (b, z, w)) : ∃ np zp ap hp tp, st = .Try b [.ExceptHandler (some (.Name c np)) none [.Assign [.Name z zp] w ap] hp] [] [] tp := by
  cases st <;> simp only [try1] at e <;> try (cases e; done)
  rename_i b' hs o f tp
  cases hs with
  | nil => cases e
  | cons h r =>
    cases r with
    | cons _ _ => cases e
    | nil =>
      simp only at e
      split at e
      · rename_i q
        rw [Bool.and_eq_true] at q
        cases o with
        | cons _ _ => cases q.1
        | nil =>
          cases f with
          | cons _ _ => cases q.2
          | nil =>
            cases qh : hd1 c h with
            | none => rw [qh] at e; cases e
            | some p =>
              rw [qh] at e
              cases e
              obtain ⟨np, zp, ap, hp, rfl⟩ := hd1_ok qh
              exact ⟨_, _, _, _, _, rfl⟩
      · cases e
/-- a value that is written as it is -/
def cstOk : E → Expr → Bool
  | .bl b, .Constant (.bool c) _ _ => b == c
  | .str x, .Constant (.str y) _ _ => decide (x = y)
  | .non, .Constant .none _ _ => true
  | _, _ => false
/-- which parts of a tuple are new lists -/
def flE (T : Tx) : Es → List Bool
  | .nil => []
  | .cons e r => (kd T e == 2) :: flE T r
/-- if c: b -/
def if1 : Stmt → Option (Expr × List Stmt)
  | .If c b [] _ => some (c, b)
  | _ => none
theorem if1_ok {st : Stmt} {c : Expr} {b : List Stmt} (h : if1 st = some (c, b)) : ∃ p, st = .If c b [] p := by
  cases st <;> simp only [if1] at h <;> try (cases h; done)
  rename_i c' b' o p
  cases o with
  | nil => cases h; exact ⟨_, rfl⟩
  | cons _ _ => cases h
def retY : Stmt → Option Expr
  | .Return y _ => y
  | _ => none
def ret1 : List Stmt → Option Expr
  | [s] => retY s
  | _ => none
theorem ret1_ok {b : List Stmt} {y : Expr} (h : ret1 b = some y) : ∃ p, b = [.Return (some y) p] := by
  cases b with
  | nil => cases h
  | cons s r =>
    cases r with
    | cons _ _ => cases h
    | nil =>
      have h' : retY s = some y := h
      cases s <;> simp only [retY] at h' <;> try (cases h'; done)
      subst h'
      exact ⟨_, rfl⟩
/-- x[k] -/
def subK (x : Str) (k : Nat) : Expr → Bool
  | .Subscript a b _ => nmE x a && (match b with
    | .Constant c _ _ => (match c with
      | .int i => i == (k : Nat)
      | _ => false)
    | _ => false)
  | _ => false
theorem subK_ok {x : Str} {k : Nat} {e : Expr} (h : subK x k e = true) : ∃ np j p2 pos, e = .Subscript (.Name x np) (.Constant (.int (k : Nat)) j p2) pos := by
  cases e <;> simp only [subK] at h <;> try (cases h; done)
  rename_i a b pos
  rw [Bool.and_eq_true] at h
  obtain ⟨h1, h2⟩ := h
  obtain ⟨np, rfl⟩ := nmE_ok h1
  cases b <;> simp only at h2 <;> try (cases h2; done)
  rename_i c j p2
  cases c <;> simp only at h2 <;> try (cases h2; done)
  have h2 := eq_of_beq h2
  subst h2
  exact ⟨_, _, _, _, rfl⟩
def strIs (s : Str) : Expr → Bool
  | .Constant c _ _ => (match c with
    | .str t => decide (t = s)
    | _ => false)
  | _ => false
theorem strIs_ok {s : Str} {e : Expr} (h : strIs s e = true) : ∃ k p, e = .Constant (.str s) k p := by
  cases e <;> simp only [strIs] at h <;> try (cases h; done)
  rename_i c k p
  cases c <;> simp only at h <;> try (cases h; done)
  have h := of_decide_eq_true h
  subst h
  exact ⟨_, _, rfl⟩
/-- x[k].append(a) or x[k].clear() -/
def chgE (x : Str) (k : Nat) : Expr → Option (Option Expr)
  | .Call f as kws cpos => (match f with
    | .Attribute t m apos => if subK x k t && (apos.endLine == cpos.line) && kws.isEmpty then (match as with
      | [a] => if decide (m = ("append" : Str)) && plainE a then some (some a) else none
      | [] => if decide (m = ("clear" : Str)) then some none else none
      | _ => none) else none
    | _ => none)
  | _ => none
theorem chgE_ok {x : Str} {k : Nat} {e : Expr} {o : Option Expr} (h : chgE x k e = some o) : ∃ t apos cpos, subK x k t = true ∧ (apos.endLine == cpos.line) = true ∧ ((∃ a, o = some a ∧ plainE a = true ∧ e = .Call (.Attribute t "append" apos) [a] [] cpos) ∨ (o = none ∧ e = .Call (.Attribute t "clear" apos) [] [] cpos)) := by
  cases e <;> simp only [chgE] at h <;> try (cases h; done)
  rename_i f as kws cpos
  cases f <;> simp only at h <;> try (cases h; done)
  rename_i t m apos
  split at h
  · rename_i q
    simp only [Bool.and_eq_true] at q
    obtain ⟨⟨q1, q2⟩, q3⟩ := q
    cases kws with
    | cons _ _ => cases q3
    | nil =>
      cases as with
      | nil =>
        simp only at h
        split at h
        · rename_i q
          cases h
          rw [of_decide_eq_true q]
          exact ⟨t, apos, cpos, q1, q2, .inr ⟨rfl, rfl⟩⟩
        · cases h
      | cons a r =>
        cases r with
        | cons _ _ => cases h
        | nil =>
          simp only at h
          split at h
          · rename_i q
            rw [Bool.and_eq_true] at q
            cases h
            rw [of_decide_eq_true q.1]
            exact ⟨t, apos, cpos, q1, q2, .inl ⟨a, rfl, q.2, rfl⟩⟩
          · cases h
  · cases h
/-- if c: u, or u alone -/
def if3 : Stmt → Option (Option Expr × Expr)
  | .If c b [] _ => (match expr1 b with
    | some u => some (some c, u)
    | none => none)
  | .Expr u _ => some (none, u)
  | _ => none
theorem if3_ok {st : Stmt} {c : Option Expr} {u : Expr} (h : if3 st = some (c, u)) : (∃ z p q, c = some z ∧ st = .If z [.Expr u p] [] q) ∨ (∃ p, c = none ∧ st = .Expr u p) := by
  cases st <;> simp only [if3] at h <;> try (cases h; done)
  · rename_i c' b' o p
    cases o with
    | cons _ _ => cases h
    | nil =>
      simp only at h
      cases q : expr1 b' with
      | none => rw [q] at h; cases h
      | some u' =>
        rw [q] at h
        cases h
        obtain ⟨p', rfl⟩ := expr1_ok q
        exact .inl ⟨_, _, _, rfl, rfl⟩
  · cases h
    exact .inr ⟨_, rfl, rfl⟩
def chgOk (T : Tx) (n : Nat) (N : List Str) (sc : Scope) : Option (Option Expr) → Option E → Bool
  | some (some a), some e => okE T n N sc e a
  | some none, none => true
  | _, _ => false
def condOk (T : Tx) (n : Nat) (N : List Str) (sc : Scope) (c2 : E) : Option Expr → Bool
  | some z => !isIfe c2 && okE T n N sc c2 z
  | none => tyes c2
/-- x = e; if c1: return r; if c2: x[k].append(..) -/
def okLease (T : Tx) (n : Nat) (N : List Str) (sc : Scope) (fr : Nat) (i : Nat) (e c1 r c2 : E) (k : Nat) (o : Option E) (s1 s2 s3 : Stmt) : Bool := match asg1 s1, if1 s2, if3 s3 with
  | some (x, y), some (z1, b1), some (z2, u) => decide (N[i]? = some x) && stoB sc x && visB sc x && okN x && !isLc y && okE T n N sc e y && (kd T e == 3) && !isIfe c1 && okE T n N sc c1 z1 && condOk T n N sc c2 z2 && (fr == 0) && chgOk T n N sc (chgE x k u) o && (match ret1 b1 with
    | some w => okE T n N sc r w && kd T r != 1
    | none => false)
  | _, _, _ => false
/-- try: return y except c: .. -/
def hdB (c : Str) : ExceptHandler → Bool
  | .ExceptHandler t n b _ => (match t with
    | some t => nmE c t && n.isNone && !b.isEmpty
    | none => false)
theorem hdB_ok {c : Str} {h : ExceptHandler} (e : hdB c h = true) : ∃ np b0 s hp, h = .ExceptHandler (some (.Name c np)) none (b0 :: s) hp := by
  cases h with
  | ExceptHandler t n b pos =>
    cases t with
    | none => cases e
    | some t =>
      simp only [hdB, Bool.and_eq_true, Bool.not_eq_true'] at e
      obtain ⟨⟨e1, e2⟩, e3⟩ := e
      obtain ⟨np, rfl⟩ := nmE_ok e1
      cases n with
      | some _ => cases e2
      | none =>
        cases b with
        | nil => cases e3
        | cons b0 s => exact ⟨_, _, _, _, rfl⟩
def tryB1 (c : Str) : Stmt → Option Expr
  | .Try b hs o f _ => (match hs with
    | [h] => if o.isEmpty && f.isEmpty && hdB c h then ret1 b else none
    | _ => none)
  | _ => none
theorem tryB1_ok {c : Str} {st : Stmt} {y : Expr} (e : tryB1 c st = some y) : ∃ p np b0 s hp tp, st = .Try [.Return (some y) p] [.ExceptHandler (some (.Name c np)) none (b0 :: s) hp] [] [] tp := by
  cases st <;> simp only [tryB1] at e <;> try (cases e; done)
  rename_i b' hs o f tp
  cases hs with
  | nil => cases e
  | cons h r =>
    cases r with
    | cons _ _ => cases e
    | nil =>
      simp only at e
      split at e
      · rename_i q
        simp only [Bool.and_eq_true] at q
        obtain ⟨⟨q1, q2⟩, q3⟩ := q
        cases o with
        | cons _ _ => cases q1
        | nil =>
          cases f with
          | cons _ _ => cases q2
          | nil =>
            obtain ⟨np, b0, s, hp, rfl⟩ := hdB_ok q3
            obtain ⟨p, rfl⟩ := ret1_ok e
            exact ⟨_, _, _, _, _, _, rfl⟩
      · cases e
def okEsL (T : Tx) (n : Nat) (N : List Str) (sc : Scope) (x : Str) : Es → List Expr → Bool
  | .nil, [e] => nmE x e
  | .cons e r, y :: ys => plainE y && okE T n N sc e y && kd T e != 1 && okEsL T n N sc x r ys
  | _, _ => false
def nmOf : Expr → Option Str
  | .Name x _ => some x
  | _ => none
theorem nmOf_ok {e : Expr} {x : Str} (h : nmOf e = some x) : ∃ p, e = .Name x p := by
  cases e <;> simp only [nmOf] at h <;> try (cases h; done)
  cases h
  exact ⟨_, rfl⟩
/-- c(a) -/
def mk2 : Expr → Option (Str × Expr)
  | .Call f as kws _ => (match as with
    | [a] => if kws.isEmpty then (match nmOf f with
      | some c => some (c, a)
      | none => none) else none
    | _ => none)
  | _ => none
theorem mk2_ok {e a : Expr} {c : Str} (h : mk2 e = some (c, a)) : ∃ np cp, e = .Call (.Name c np) [a] [] cp := by
  cases e <;> simp only [mk2] at h <;> try (cases h; done)
  rename_i f as kws cp
  cases as with
  | nil => cases h
  | cons b r =>
    cases r with
    | cons _ _ => cases h
    | nil =>
      simp only at h
      cases kws with
      | cons _ _ => cases h
      | nil =>
        rw [if_pos (show ([] : List Keyword).isEmpty = true from rfl)] at h
        cases q : nmOf f with
        | none => rw [q] at h; cases h
        | some c' =>
          rw [q] at h
          cases h
          obtain ⟨np, rfl⟩ := nmOf_ok q
          exact ⟨_, _, rfl⟩
/-- raise c(a) -/
def rais2 : Stmt → Option (Str × Expr)
  | .Raise e u _ => (match e with
    | some e => if u.isNone then mk2 e else none
    | none => none)
  | _ => none
theorem rais2_ok {st : Stmt} {c : Str} {a : Expr} (h : rais2 st = some (c, a)) : ∃ np cp pos, st = .Raise (some (.Call (.Name c np) [a] [] cp)) none pos := by
  cases st <;> simp only [rais2] at h <;> try (cases h; done)
  rename_i e u pos
  cases e with
  | none => cases h
  | some e =>
    simp only at h
    cases u with
    | some _ => cases h
    | none =>
      rw [if_pos (show (none : Option Expr).isNone = true from rfl)] at h
      obtain ⟨np, cp, rfl⟩ := mk2_ok h
      exact ⟨_, _, _, rfl⟩
/-- except c: raise d(v) -/
def hdX (c : Str) : ExceptHandler → Option (Str × Str)
  | .ExceptHandler t n b _ => (match t with
    | some t => if nmE c t && n.isNone then (match b with
      | [s] => (match rais2 s with
        | some (d, a) => (match nmOf a with
          | some v => some (d, v)
          | none => none)
        | none => none)
      | _ => none) else none
    | none => none)
theorem hdX_ok {c d v : Str} {h : ExceptHandler} (e : hdX c h = some (d, v)) : ∃ np hp rp vp cp pos, h = .ExceptHandler (some (.Name c np)) none [.Raise (some (.Call (.Name d rp) [.Name v vp] [] cp)) none pos] hp := by
  cases h with
  | ExceptHandler t n b hp =>
    cases t with
    | none => cases e
    | some t =>
      simp only [hdX] at e
      split at e
      · rename_i q
        rw [Bool.and_eq_true] at q
        obtain ⟨np, rfl⟩ := nmE_ok q.1
        cases n with
        | some _ => cases q.2
        | none =>
          cases b with
          | nil => cases e
          | cons s r =>
            cases r with
            | cons _ _ => cases e
            | nil =>
              simp only at e
              cases qr : rais2 s with
              | none => rw [qr] at e; cases e
              | some p =>
                obtain ⟨d', a⟩ := p
                rw [qr] at e
                simp only at e
                cases qn : nmOf a with
                | none => rw [qn] at e; cases e
                | some v' =>
                  rw [qn] at e
                  cases e
                  obtain ⟨vp, rfl⟩ := nmOf_ok qn
                  obtain ⟨rp, cp, pos, rfl⟩ := rais2_ok qr
                  exact ⟨_, _, _, _, _, _, rfl⟩
      · cases e
/-- try: return y except c: raise d(v) -/
def tryX1 (c : Str) : Stmt → Option (Expr × Str × Str)
  | .Try b hs o f _ => (match hs with
    | [h] => if o.isEmpty && f.isEmpty then (match ret1 b, hdX c h with
      | some y, some p => some (y, p)
      | _, _ => none) else none
    | _ => none)
  | _ => none
theorem tryX1_ok {c d v : Str} {st : Stmt} {y : Expr} (e : tryX1 c st = some (y, d, v)) : ∃ p np hp rp vp cp pos tp, st = .Try [.Return (some y) p] [.ExceptHandler (some (.Name c np)) none [.Raise (some (.Call (.Name d rp) [.Name v vp] [] cp)) none pos] hp] [] [] tp := by
  cases st <;> simp only [tryX1] at e <;> try (cases e; done)
  rename_i b hs o f tp
  cases hs with
  | nil => cases e
  | cons h r =>
    cases r with
    | cons _ _ => cases e
    | nil =>
      simp only at e
      split at e
      · rename_i q
        rw [Bool.and_eq_true] at q
        cases o with
        | cons _ _ => cases q.1
        | nil =>
          cases f with
          | cons _ _ => cases q.2
          | nil =>
            cases q1 : ret1 b with
            | none => rw [q1] at e; cases e
            | some y' =>
              cases q2 : hdX c h with
              | none => rw [q1, q2] at e; cases e
              | some p =>
                rw [q1, q2] at e
                cases e
                obtain ⟨_, rfl⟩ := ret1_ok q1
                obtain ⟨_, _, _, _, _, _, rfl⟩ := hdX_ok q2
                exact ⟨_, _, _, _, _, _, _, _, rfl⟩
      · cases e
/-- x.row -/
def rowA (x : Str) : Expr → Bool
  | .Attribute t m _ => nmE x t && decide (m = ("row" : Str))
  | _ => false
theorem rowA_ok {x : Str} {e : Expr} (h : rowA x e = true) : ∃ xp p, e = .Attribute (.Name x xp) "row" p := by
  cases e <;> simp only [rowA] at h <;> try (cases h; done)
  rename_i t m p
  rw [Bool.and_eq_true, decide_eq_true_eq] at h
  obtain ⟨xp, rfl⟩ := nmE_ok h.1
  rw [h.2]
  exact ⟨_, _, rfl⟩
/-- z = (x.row, isinstance(x, ..), ..) -/
def firstR (x : Str) (s : Stmt) : Option (Str × List Str) := match asg1 s with
  | some (z, e) => (match tupE e with
    | some (a :: xs) => if rowA x a then (match isCs x xs with
      | some n => some (z, n)
      | none => none) else none
    | _ => none)
  | none => none
theorem firstR_ok {x z : Str} {s : Stmt} {n : List Str} (h : firstR x s = some (z, n)) : ∃ zp xp rp xs k p pos, s = .Assign [.Name z zp] (.Tuple (.Attribute (.Name x xp) "row" rp :: xs) k p) pos ∧ isCs x xs = some n := by
  unfold firstR at h
  cases q1 : asg1 s with
  | none => rw [q1] at h; cases h
  | some p1 =>
    obtain ⟨z', e⟩ := p1
    rw [q1] at h
    simp only at h
    cases q2 : tupE e with
    | none => rw [q2] at h; cases h
    | some l =>
      rw [q2] at h
      cases l with
      | nil => cases h
      | cons a xs =>
        simp only at h
        split at h
        · rename_i qa
          cases q3 : isCs x xs with
          | none => rw [q3] at h; cases h
          | some n' =>
            rw [q3] at h
            cases h
            obtain ⟨zp, pos, rfl⟩ := asg1_ok q1
            obtain ⟨k, p, rfl⟩ := tupE_ok q2
            obtain ⟨xp, rp, rfl⟩ := rowA_ok qa
            exact ⟨_, _, _, _, _, _, _, rfl, q3⟩
        · cases h
/-- z = z + (isinstance(x, ..), ..); .. -/
def restR (x z : Str) : List Stmt → Option (List (List Str))
  | [] => some []
  | s :: r => match asg1 s with
    | some (z', e) => if z' = z then (match addT z e with
      | some xs => (match isCs x xs, restR x z r with
        | some n, some ns => some (n :: ns)
        | _, _ => none)
      | none => none) else none
    | none => none
theorem restR_ok {x z : Str} {s : Stmt} {r : List Stmt} {ms : List (List Str)} (h : restR x z (s :: r) = some ms) : ∃ zp zq xs k p pos pos2 n ns, s = .Assign [.Name z zp] (.BinOp (.Name z zq) .Add (.Tuple xs k p) pos) pos2 ∧ isCs x xs = some n ∧ restR x z r = some ns ∧ ms = n :: ns := by
  unfold restR at h
  cases q1 : asg1 s with
  | none => rw [q1] at h; cases h
  | some p1 =>
    obtain ⟨z', e⟩ := p1
    rw [q1] at h
    simp only at h
    split at h
    · rename_i ez
      subst ez
      cases q2 : addT z' e with
      | none => rw [q2] at h; cases h
      | some xs =>
        rw [q2] at h
        simp only at h
        cases q3 : isCs x xs with
        | none => rw [q3] at h; cases h
        | some n =>
          cases q4 : restR x z' r with
          | none => rw [q3, q4] at h; cases h
          | some ns =>
            rw [q3, q4] at h
            cases h
            obtain ⟨zp, pos2, rfl⟩ := asg1_ok q1
            obtain ⟨zq, k, p, pos, rfl⟩ := addT_ok q2
            exact ⟨_, _, _, _, _, _, _, _, _, rfl, q3, rfl, rfl⟩
    · cases h
def okTryR (T : Tx) (n : Nat) (N : List Str) (sc : Scope) (e : E) (c : Str) (i j : Nat) (ns : List (List Str)) (st : Stmt) : Bool := match tryA c st with
  | some (b, x, s) => (match expr1 b, s with
    | some y, s0 :: r => (match firstR x s0 with
      | some (z, n0) => (match restR x z r with
        | some nr => decide (ns = n0 :: nr) && !ns.flatten.isEmpty && glB sc c && okN c && (T.exs.contains c || T.exr.contains c) && !T.cl && !isLc y && okE T n N sc e y && decide (N[i]? = some x) && locB sc x && okN x && decide (N[j]? = some z) && stoB sc z && visB sc z && okN z && glB sc "isinstance" &&
          ns.flatten.all fun C => glB sc C && okN C
        | none => false)
      | none => false)
    | _, _ => false)
  | none => false
def isRais : Stmt → Bool
  | .Raise _ _ _ => true
  | _ => false
mutual
def okS (T : Tx) (n : Nat) (N : List Str) (sc : Scope) (fr : Nat) : S → Stmt → Bool
  | .set i e, .Assign [.Name x py] y _ => decide (N[i]? = some x) && stoB sc x && lcSwap sc x py y && okE T n N sc e y && kd T e != 1
  | .setO i e, .Assign [.Name x py] y _ => decide (N[i]? = some x) && stoB sc x && lcSwap sc x py y && okE T n N sc e y && kd T e == 2
  | .tup is e, .Assign [t] y _ => okGS N sc (.tp is) t && !isLc y && !isTup y && okE T n N sc e y && kd T e != 1
  | .app i e, .Expr (.Call (.Attribute (.Name x _) f apos) [y] [] cpos) _ => decide (N[i]? = some x) && visB sc x && okN x && decide (f = ("append" : Str)) && (apos.endLine == cpos.line) && plainE y && okE T n N sc e y && kd T e != 1
  | .rev i, .Expr (.Call (.Attribute (.Name x _) f apos) [] [] cpos) _ => decide (N[i]? = some x) && visB sc x && okN x && decide (f = ("reverse" : Str)) && (apos.endLine == cpos.line)
  | .ext i e, .Expr (.Call (.Attribute (.Name x _) f apos) [y] [] cpos) _ => decide (N[i]? = some x) && visB sc x && okN x && decide (f = ("extend" : Str)) && (apos.endLine == cpos.line) && plainE y && okE T n N sc e y && kd T e == 2
  | .ifs c a b, .If x p q _ => !isIfe c && okE T n N sc c x && okSs T n N sc fr a p && okSs T n N sc fr b q
  | .for_ _ tg it body, .For t x b [] _ => !isOwn it && okGS N sc tg t && plainE x && okI T n N sc it x && okSs T n N sc fr body b
  | .whil _ _ c body, .While x b [] _ => !isIfe c && okE T n N sc c x && okSs T n N sc fr body b
  | .ret e, .Return (some y) _ => (fr == 0) && okE T n N sc e y && kd T e != 1
  | .retO e, .Return (some y) _ => (fr == 2) && okE T n N sc e y && kd T e == 2
  | .retV i, .Return (some (.Name x _)) _ => (fr == 2) && decide (N[i]? = some x) && visB sc x && okN x
  | .retN, .Return none _ => (fr == 0)
  | .retF fl es, .Return (some (.Tuple xs _ _)) _ => (fr == 3) && decide (fl = flE T es) && okEs T n N sc [] es xs
  | .retL es i, .Return (some (.Tuple xs _ _)) _ => (fr == 3) && (match N[i]? with
    | some x => visB sc x && okN x && okEsL T n N sc x es xs
    | none => false)
  | .retC e, .Return (some y) _ => (fr == 3) && okE T n N sc e y && kd T e == 3
  | .expr e, .Expr y _ => !isLc y && okE T n N sc e y
  | .pass, .Pass _ => true
  | .pass, .Expr (.Constant (.str _) _ _) _ => true
  | .cont, .Continue _ => true
  | .nope, st => isRais st
  | .tryB e c, st => (match tryB1 c st with
    | some y => (fr == 0) && glB sc c && okN c && T.exs.contains c && !T.cl && okE T n N sc e y && kd T e != 1
    | none => false)
  | .raisX c e, st => (match rais2 st with
    | some (c', y) => decide (c' = c) && glB sc c && okN c && T.exr.contains c && !T.cl && decide (2 ≤ n) && plainE y && okE T n N sc e y && kd T e != 1
    | none => false)
  | .tryR e c i j ns, st => okTryR T n N sc e c i j ns st
  | .rais c, st => rais1 c st && glB sc c && okN c && T.exs.contains c
  | .tryI e c i j n1 n2, st => (match tryA c st with
    | some (b, x, s) => (match expr1 b, two1 s with
      | some y, some (z, xs, ys) => glB sc c && okN c && T.exs.contains c && !T.cl && !isLc y && okE T n N sc e y && decide (N[i]? = some x) && locB sc x && okN x && decide (N[j]? = some z) && stoB sc z && visB sc z && okN z && glB sc "isinstance" &&
        decide (isCs x xs = some n1) && decide (isCs x ys = some n2) && (n1 ++ n2).all fun C => glB sc C && okN C
      | _, _ => false)
    | none => false)
  | .tryE i e c j h, st => (match try1 c st with
    | some (b, z, w) => glB sc c && okN c && decide (N[j]? = some z) && stoB sc z && cstOk h w && T.exs.contains c && !T.cl && (match i with
      | none => (match expr1 b with
        | some y => !isLc y && okE T n N sc e y
        | none => false)
      | some i => (match asgL b with
        | some (u, y) => !isLc y && okE T n N sc e y && kd T e != 1 && decide (N[i]? = some u) && stoB sc u
        | none => false))
    | none => false)
  | _, _ => false
def okSs (T : Tx) (n : Nat) (N : List Str) (sc : Scope) (fr : Nat) : Ss → List Stmt → Bool
  | .nil, [] => true
  | .cons s r, x :: xs => okS T n N sc fr s x && okSs T n N sc fr r xs
  | .frz _ r, xs => okSs T n N sc fr r xs
  | .lease i e c1 r c2 k o rest, x1 :: x2 :: x3 :: xs => okLease T n N sc fr i e c1 r c2 k o x1 x2 x3 && okSs T n N sc fr rest xs
  | _, _ => false
end

/-! ### the state of a body -/
structure SR (K : PySem.W.Frag) (He Ge : Hp) (ρ : En) (σ : L2.St) (H G : Hp) : Prop where
  ext : Ext He Ge H G
  er : ER K He ρ σ H G
  own : ∀ (i : Nat) (ds : List Dat) (a : Addr), ρ[i]? = some (.ow ds) → σ[i]? = some (some (.ref a)) → He a = none
  sep : ∀ (i j : Nat) (ds es : List Dat) (a : Addr), i ≠ j → ρ[i]? = some (.ow ds) → ρ[j]? = some (.ow es) → σ[i]? = some (some (.ref a)) → σ[j]? = some (some (.ref a)) → False
section
variable {X : Cx} {T : Tx} {P : Pg} {n : Nat} {W : WX} {fr : Nat}
variable {He Ge H G H1 G1 : Hp} {ρ : En} {σ : L2.St}
theorem SR.on (s : SR X.K He Ge ρ σ H G) (x : Ext H G H1 G1) : SR X.K He Ge ρ σ H1 G1 := ⟨s.ext.trans x, s.er.ext x, s.own, s.sep⟩
theorem Ext.rebase (a : Ext He Ge H1 G1) (b : Ext He G1 H G) : Ext He Ge H G :=
  ⟨b.all, a.stl.trans b.stl, b.sub, fun c q => by
    rcases b.new c q with z | z
    · exact a.new c z
    · exact .inr z⟩
theorem Ext.base (a : Ext He Ge H G) : Ext He G H G := ⟨a.all, Same.refl G, a.sub, fun c q => .inl q⟩
theorem SR.base (s : SR X.K He Ge ρ σ H G) : SR X.K He G ρ σ H G := ⟨s.ext.base, s.er, s.own, s.sep⟩
theorem SR.rebase (a : Ext He Ge H1 G1) (s : SR X.K He G1 ρ σ H G) : SR X.K He Ge ρ σ H G := ⟨a.rebase s.ext, s.er, s.own, s.sep⟩
theorem SR.set (s : SR X.K He Ge ρ σ H G) {v : V} {d : Dat} (r : Rep X.K G v d) (i : Nat) : SR X.K He Ge (ρ.set i (.fz d)) (σ.set i (some v)) H G := by
  have key : ∀ (j : Nat) (ds : List Dat), (ρ.set i (.fz d))[j]? = some (.ow ds) → j ≠ i ∧ ρ[j]? = some (.ow ds) := fun j ds e => by
    by_cases h : i = j
    · subst h
      rw [List.getElem?_set] at e
      simp at e
    · rw [List.getElem?_set_ne h] at e
      exact ⟨fun z => h z.symm, e⟩
  refine ⟨s.ext, s.er.set r i, fun j ds a e1 e2 => ?_, fun j k ds es a hjk e1 e2 e3 e4 => ?_⟩
  · obtain ⟨n1, e1⟩ := key j ds e1
    rw [List.getElem?_set_ne (fun z => n1 z.symm)] at e2
    exact s.own j ds a e1 e2
  · obtain ⟨n1, e1⟩ := key j ds e1
    obtain ⟨n2, e2⟩ := key k es e2
    rw [List.getElem?_set_ne (fun z => n1 z.symm)] at e3
    rw [List.getElem?_set_ne (fun z => n2 z.symm)] at e4
    exact s.sep j k ds es a hjk e1 e2 e3 e4
/-- what is forgotten -/
theorem SR.un (s : SR X.K He Ge ρ σ H G) (tmp : List Nat) : SR X.K He Ge (unS tmp ρ) σ H G := by
  have key : ∀ (j : Nat) (z : Sl), (unS tmp ρ)[j]? = some z → z = .un ∨ ρ[j]? = some z := fun j z e => by
    rw [unS_get] at e
    split at e
    · cases e; exact .inl rfl
    · exact .inr e
  refine ⟨s.ext, ⟨s.er.bas, s.er.sub, by rw [unS_length]; exact s.er.len, fun j z e => ?_⟩, fun j ds a e1 e2 => ?_, fun j k ds es a hjk e1 e2 e3 e4 => ?_⟩
  · rw [unS_get] at e
    split at e
    · rename_i h
      cases e
      have hj : j < σ.length := by rw [← s.er.len]; exact h.2
      exact ⟨σ[j], by simp [hj], trivial⟩
    · exact s.er.at_ j z e
  · rcases key j _ e1 with z | z
    · cases z
    · exact s.own j ds a z e2
  · rcases key j _ e1 with z | z
    · cases z
    · rcases key k _ e2 with y | y
      · cases y
      · exact s.sep j k ds es a hjk z y e3 e4
/-- a list of one's own, new -/
theorem SR.setO (s : SR X.K He Ge ρ σ H G) {H1 G1 : Hp} (x : Ext H G H1 G1) {a : Addr} {vs : List V} {ds : List Dat} (na : H a = none) (ga : G1 a = none) (ha : H1 a = some (.lst vs)) (r : Reps X.K G1 vs ds) (i : Nat) :
    SR X.K He Ge (ρ.set i (.ow ds)) (σ.set i (some (.ref a))) H1 G1 := by
  have s1 := s.on x
  have key : ∀ (j : Nat) (z : Sl), (ρ.set i (.ow ds))[j]? = some z → (j = i ∧ z = .ow ds ∧ i < ρ.length) ∨ (j ≠ i ∧ ρ[j]? = some z) := fun j z e => by
    by_cases h : i = j
    · subst h
      by_cases hi : i < ρ.length
      · rw [List.getElem?_set_self hi] at e; cases e; exact .inl ⟨rfl, rfl, hi⟩
      · rw [List.getElem?_eq_none (by rw [List.length_set]; omega)] at e; cases e
    · rw [List.getElem?_set_ne h] at e
      exact .inr ⟨fun z => h z.symm, e⟩
  have old : ∀ (j : Nat) (es : List Dat) (b : Addr), ρ[j]? = some (.ow es) → σ[j]? = some (some (.ref b)) → b ≠ a := fun j es b e1 e2 z => by
    obtain ⟨o, h1, b', ws, rfl, h2, _⟩ := s.er.at_ j _ e1
    rw [e2] at h1
    cases h1
    rw [z, na] at h2
    cases h2
  refine ⟨s1.ext, ⟨s1.er.bas, s1.er.sub, by simp [s1.er.len], fun j z e => ?_⟩, fun j es b e1 e2 => ?_, fun j k ds1 es b hjk e1 e2 e3 e4 => ?_⟩
  · rcases key j z e with ⟨rfl, rfl, hi⟩ | ⟨h, e⟩
    · exact ⟨_, List.getElem?_set_self (by rw [← s1.er.len]; exact hi), a, vs, rfl, ha, ga, r⟩
    · obtain ⟨o, h1, h2⟩ := s1.er.at_ j z e
      exact ⟨o, by rw [List.getElem?_set_ne (fun z => h z.symm)]; exact h1, h2⟩
  · rcases key j _ e1 with ⟨rfl, _, hi⟩ | ⟨h, e⟩
    · rw [List.getElem?_set_self (by rw [← s1.er.len]; exact hi)] at e2
      cases e2
      exact s.ext.all.free na
    · rw [List.getElem?_set_ne (fun z => h z.symm)] at e2
      exact s.own j es b e e2
  · rcases key j _ e1 with ⟨rfl, _, hi⟩ | ⟨h, e⟩
    · rw [List.getElem?_set_self (by rw [← s1.er.len]; exact hi)] at e3
      cases e3
      rcases key k _ e2 with ⟨rfl, _, _⟩ | ⟨h', e'⟩
      · exact hjk rfl
      · rw [List.getElem?_set_ne (fun z => h' z.symm)] at e4
        exact old k es _ e' e4 rfl
    · rw [List.getElem?_set_ne (fun z => h z.symm)] at e3
      rcases key k _ e2 with ⟨rfl, _, hi⟩ | ⟨h', e'⟩
      · rw [List.getElem?_set_self (by rw [← s1.er.len]; exact hi)] at e4
        cases e4
        exact old j ds1 _ e e3 rfl
      · rw [List.getElem?_set_ne (fun z => h' z.symm)] at e4
        exact s.sep j k ds1 es b hjk e e' e3 e4
/-- one's own list is changed -/
theorem SR.chg (s : SR X.K He Ge ρ σ H G) {i : Nat} {ds es : List Dat} {a : Addr} {ws : List V} (e : ρ[i]? = some (.ow ds)) (ha : σ[i]? = some (some (.ref a))) (r : Reps X.K G ws es) :
    SR X.K He Ge (ρ.set i (.ow es)) σ (upd H a (.lst ws)) G := by
  have na := s.own i ds a e ha
  obtain ⟨o, h1, a', vs, ea, h2, ga, _⟩ := s.er.at_ i _ e
  rw [ha] at h1
  cases h1
  cases ea
  have hi : i < ρ.length := (List.getElem?_eq_some_iff.mp e).1
  have key : ∀ (j : Nat) (z : Sl), (ρ.set i (.ow es))[j]? = some z → (j = i ∧ z = .ow es) ∨ (j ≠ i ∧ ρ[j]? = some z) := fun j z q => by
    by_cases h : i = j
    · subst h
      rw [List.getElem?_set_self hi] at q; cases q; exact .inl ⟨rfl, rfl⟩
    · rw [List.getElem?_set_ne h] at q
      exact .inr ⟨fun z => h z.symm, q⟩
  refine ⟨⟨fun b u q => ?_, s.ext.stl, fun b u q => ?_, s.ext.new⟩, ⟨fun b u q => ?_, fun b u q => ?_, by simp [s.er.len], fun j z q => ?_⟩, fun j fs b q1 q2 => ?_, fun j k fs gs b hjk q1 q2 q3 q4 => ?_⟩
  · rw [upd_ne (ne_of_none q na)]; exact s.ext.all _ _ q
  · rw [upd_ne (ne_of_none q ga)]; exact s.ext.sub _ _ q
  · rw [upd_ne (ne_of_none q na)]; exact s.er.bas _ _ q
  · rw [upd_ne (ne_of_none q ga)]; exact s.er.sub _ _ q
  · rcases key j z q with ⟨rfl, rfl⟩ | ⟨h, q⟩
    · exact ⟨_, ha, a, ws, rfl, upd_same, ga, r⟩
    · obtain ⟨o, h1, h3⟩ := s.er.at_ j z q
      refine ⟨o, h1, ?_⟩
      cases z with
      | un => trivial
      | fz d => exact h3
      | ln d => exact h3
      | ex b dx c y =>
        refine ⟨h3.1, ?_⟩
        have h4 := h3.2
        cases y with
        | none => exact h4
        | some d =>
          obtain ⟨b, v, e1, e2, e3⟩ := h4
          refine ⟨b, v, e1, ?_, e3⟩
          rw [upd_ne]
          · exact e2
          · intro z
            subst z
            rw [h2] at e2
            cases e2
      | ow fs =>
        obtain ⟨b, us, rfl, k1, k2, k3⟩ := h3
        refine ⟨b, us, rfl, ?_, k2, k3⟩
        rw [upd_ne]
        · exact k1
        · intro z
          subst z
          exact s.sep j i fs ds b h q e h1 ha
  · rcases key j _ q1 with ⟨rfl, _⟩ | ⟨h, q⟩
    · rw [ha] at q2; cases q2; exact na
    · exact s.own j fs b q q2
  · rcases key j _ q1 with ⟨rfl, _⟩ | ⟨h, q⟩
    · rcases key k _ q2 with ⟨rfl, _⟩ | ⟨h', q'⟩
      · exact hjk rfl
      · exact s.sep j k ds gs b hjk e q' q3 q4
    · rcases key k _ q2 with ⟨rfl, _⟩ | ⟨h', q'⟩
      · exact s.sep j k fs ds b hjk q e q3 q4
      · exact s.sep j k fs gs b hjk q q' q3 q4
/-- one's own list is kept as it is from here on -/
theorem SR.frz (s : SR X.K He Ge ρ σ H G) {i : Nat} {ds : List Dat} (e : ρ[i]? = some (.ow ds)) : ∃ G1 a vs, SR X.K He Ge (ρ.set i (.fz (.list ds))) σ H G1 ∧ σ[i]? = some (some (.ref a)) ∧ He a = none ∧ G1 a = some (.lst vs) ∧ Reps X.K G1 vs ds ∧ Same G G1 := by
  obtain ⟨o, h1, a, vs, rfl, h2, ga, r⟩ := s.er.at_ i _ e
  have na := s.own i ds a e h1
  have hi : i < ρ.length := (List.getElem?_eq_some_iff.mp e).1
  have g1 : Same G (upd G a (.lst vs)) := fun b u q => by rw [upd_ne (ne_of_none q ga)]; exact q
  have sub : Same (upd G a (.lst vs)) H := fun b u q => by
    by_cases hb : b = a
    · subst hb; rw [upd_same] at q; rw [← q]; exact h2
    · rw [upd_ne hb] at q; exact s.er.sub _ _ q
  have key : ∀ (j : Nat) (z : Sl), (ρ.set i (.fz (.list ds)))[j]? = some z → (j = i ∧ z = .fz (.list ds)) ∨ (j ≠ i ∧ ρ[j]? = some z) := fun j z q => by
    by_cases h : i = j
    · subst h
      rw [List.getElem?_set_self hi] at q; cases q; exact .inl ⟨rfl, rfl⟩
    · rw [List.getElem?_set_ne h] at q
      exact .inr ⟨fun z => h z.symm, q⟩
  refine ⟨upd G a (.lst vs), a, vs, ⟨⟨s.ext.all, s.ext.stl.trans g1, sub, fun b q => ?_⟩, ⟨s.er.bas, sub, by simp [s.er.len], fun j z q => ?_⟩, fun j fs b q1 q2 => ?_, fun j k fs gs b hjk q1 q2 q3 q4 => ?_⟩, h1, na, upd_same, r.mono g1, g1⟩
  · by_cases hb : b = a
    · subst hb; exact .inr na
    · rw [upd_ne hb] at q; exact s.ext.new b q
  · rcases key j z q with ⟨rfl, rfl⟩ | ⟨h, q⟩
    · exact ⟨_, h1, _, rfl, .lst (SqL.of upd_same) (r.mono g1)⟩
    · obtain ⟨o, k1, k2⟩ := s.er.at_ j z q
      refine ⟨o, k1, ?_⟩
      cases z with
      | un => trivial
      | fz d => obtain ⟨v, ev, k⟩ := k2; exact ⟨v, ev, k.mono g1⟩
      | ln d => obtain ⟨b, us, ev, k, kk⟩ := k2; exact ⟨b, us, ev, k, kk.mono g1⟩
      | ex b dx c y =>
        refine ⟨k2.1, ?_⟩
        have k3 := k2.2
        cases y with
        | none => exact k3
        | some d => obtain ⟨b, v, e1, e2, e3⟩ := k3; exact ⟨b, v, e1, e2, e3.mono g1⟩
      | ow fs =>
        obtain ⟨b, us, rfl, k3, k4, k5⟩ := k2
        refine ⟨b, us, rfl, k3, ?_, k5.mono g1⟩
        rw [upd_ne]
        · exact k4
        · intro z
          subst z
          exact s.sep j i fs ds b h q e k1 h1
  · rcases key j _ q1 with ⟨_, z⟩ | ⟨h, q⟩
    · cases z
    · exact s.own j fs b q q2
  · rcases key j _ q1 with ⟨_, z⟩ | ⟨h, q⟩
    · cases z
    · rcases key k _ q2 with ⟨_, z⟩ | ⟨h', q'⟩
      · cases z
      · exact s.sep j k fs gs b hjk q q' q3 q4
theorem SR.all_set {Q : L2.St → Hp → Prop} : ∀ {is : List Nat} {vs : List V} {ds : List Dat} {ρ : En} {σ : L2.St}, SR X.K He Ge ρ σ H G → Reps X.K G vs ds → ds.length = is.length →
    (∀ σ', SR X.K He Ge ((is.zip ds).foldl (fun r p => r.set p.1 (.fz p.2)) ρ) σ' H G → Q σ' H) → gAll is vs σ H Q
  | [], vs, ds, ρ, σ, er, r, hl, c => by
    cases ds with
    | nil => cases r; exact ⟨rfl, c σ er⟩
    | cons _ _ => simp at hl
  | i :: is, vs, ds, ρ, σ, er, r, hl, c => by
    cases ds with
    | nil => simp at hl
    | cons d ds =>
      cases r with
      | cons r t => exact ⟨_, _, rfl, SR.all_set (er.set r i) t (by simpa using hl) c⟩
theorem SR.g_set {tg : Tg} {v : V} {d : Dat} {ρ1 : En} {Q : L2.St → Hp → Prop} (s : SR X.K He Ge ρ σ H G) (r : Rep X.K G v d) (h : setT tg d ρ = .ok ρ1)
    (c : ∀ σ', SR X.K He Ge ρ1 σ' H G → Q σ' H) : tG X.K tg v σ H Q := by
  cases tg with
  | nm i =>
    simp only [setT] at h
    cases h
    exact c _ (s.set r i)
  | tp is =>
    cases d <;> simp only [setT] at h <;> try (cases h; done)
    rename_i ds
    split at h <;> cases h
    rename_i hl
    cases r with
    | tup q rr =>
      refine ⟨_, _, rfl, sqT_keep s.er.sub q, by rw [rr.length, hl], ?_⟩
      exact SR.all_set s rr hl c

/-! ### readings -/
def EndS (X : Cx) (W : WX) (fr : Nat) (He Ge : Hp) (D : Ends) : Out → Prop
  | .nx ρ => ∀ σ H G, SR X.K He Ge ρ σ H G → D.nx σ H
  | .ct ρ => ∀ σ H G, SR X.K He Ge ρ σ H G → D.ct σ H
  | .ret d => ∀ v H G, Ext He Ge H G → RK X.K fr He H G v d → D.rt v H
  | .exc c x => ∀ cls dx σ H G, Ext He Ge H G → XR X.K X.mg H G cls dx c x → W cls dx σ H
  | .bad => False
def tS (X : Cx) (W : WX) (fr : Nat) (f : En → Out) : TS := fun D σ H => ∃ He Ge G ρ, SR X.K He Ge ρ σ H G ∧ EndS X W fr He Ge D (f ρ)
theorem EndS.rebase {D : Ends} {o : Out} (a : Ext He Ge H1 G1) (h : EndS X W fr He Ge D o) : EndS X W fr He G1 D o := by
  cases o with
  | nx ρ => exact fun σ H G s => h σ H G (s.rebase a)
  | ct ρ => exact fun σ H G s => h σ H G (s.rebase a)
  | ret d => exact fun v H G x r => h v H G (a.rebase x) r
  | exc c z => exact fun cls dx σ H G x r => h cls dx σ H G (a.rebase x) r
  | bad => exact h
theorem PS.imp {st : Stmt} {t t' : TS} (h : PS X st t) (i : ∀ D σ H, t' D σ H → t D σ H) : PS X st t' := ⟨fun pins s σ H D I q => h.run pins s σ H D I (i D σ H q)⟩
theorem PSs.imp {st : List Stmt} {t t' : TS} (h : PSs X st t) (i : ∀ D σ H, t' D σ H → t D σ H) : PSs X st t' := ⟨fun pins s σ H D I q => h.run pins s σ H D I (i D σ H q)⟩
/-- a term, then a statement -/
theorem bndS {a : E} {f : Dat → Out} {j : Nat} {D : Ends} {Q' : VK} (s : SR X.K He Ge ρ σ H G) (h : EndS X W fr He Ge D (Out.of (ev P a ρ) f))
    (c : ∀ d x H1 G1, Ext H G H1 G1 → RK X.K j H H1 G1 x d → SR X.K He Ge ρ σ H1 G1 → EndS X W fr He Ge D (f d) → Q' x H1) : tK X P W j a σ H Q' := by
  refine ⟨He, G, ρ, s.er, ?_⟩
  cases q : ev P a ρ with
  | ok d => rw [q] at h; exact fun v H' G' x r => c d v H' G' x r (s.on x) h
  | exc z y => rw [q] at h; exact fun cls dx H' G' x r => h cls dx σ H' G' (s.ext.trans x) r
  | bad => rw [q] at h; exact h
theorem bndST {a : E} {f : Bool → Out} {D : Ends} {Q' : Bool → Hp → Prop} (s : SR X.K He Ge ρ σ H G) (h : EndS X W fr He Ge D (Out.of (ev P a ρ >>= fun d => truD d) f))
    (c : ∀ b H1 G1, Ext H G H1 G1 → SR X.K He Ge ρ σ H1 G1 → EndS X W fr He Ge D (f b) → Q' b H1) : tT X P W a σ H Q' := by
  refine ⟨He, G, ρ, s.er, ?_⟩
  cases q : (ev P a ρ >>= fun d => truD d) with
  | ok d => rw [q] at h; exact fun H' G' x => c d H' G' x (s.on x) h
  | exc z y => rw [q] at h; exact fun cls dx H' G' x r => h cls dx σ H' G' (s.ext.trans x) r
  | bad => rw [q] at h; exact h
structure Gs (X : Cx) (T : Tx) (P : Pg) (n : Nat) (W : WX) : Prop extends Gd X T P n W where
  pass : PassesOwn (model X.prog X.w) X.A X.env X.xe
  fnT : ∀ x, X.fn x = true
  kind : X.env.scope.kind = .function
  stk : X.stack = X.env :: X.outer
  frm : X.env.frame = some X.env.locals
end
end NW
end

section
set_option maxHeartbeats 8000000
namespace NW
open PySem PySem.Spec PyProof.Rows L2
theorem swaps_plain {e : Expr} {t : Option Expr} {l : Nat} {env : Env} (h : isLc e = false) : swapsWith e t l env = pure false := by
  cases e <;> first | rfl | (simp [isLc] at h)
theorem swaps_cell {e : Expr} {gs : List Comprehension} {scope : Scope} {pos py : Pos} {y : Str} {l : Nat} {env : Env} (hy : env.scope.names.lookup y = some .cell) : swapsWith (.ListComp e gs scope pos) (some (.Name y py)) l env = pure false := by
  have ky : env.kindOf y = some .cell := hy
  unfold swapsWith
  simp only [ky]
  have z : ((some NameKind.cell : Option NameKind) == some NameKind.local) = false := by decide
  simp only [z, Bool.and_false, Bool.false_and]
section
variable {X : Cx} {T : Tx} {P : Pg} {n : Nat} {W : WX} {fr : Nat} {x y : Expr} {pos py : Pos} {e : E}
theorem loc_sto {sc : Scope} {x : Str} (h : stoB sc x = true) : Loc sc x := by
  unfold stoB at h
  split at h
  · rename_i q; exact .inl q
  · rename_i q; exact .inr q
  · cases h
theorem pgs_allS (nd : X.N.Nodup) (fnT : ∀ x, X.fn x = true) : ∀ {is : List Nat} {es : List Expr}, is.length = es.length → ((is.zip es).all fun p => match p.2 with
    | .Name x _ => decide (X.N[p.1]? = some x) && stoB X.env.scope x
    | _ => false) = true → PGs X es (gAll is) ∧ (assignEach es X.env).length = is.length ∧ (assignEach es X.env).findIdx? (·.1) = none
  | [], [], _, _ => ⟨pgs_nil, rfl, rfl⟩
  | [], _ :: _, h, _ => by simp at h
  | _ :: _, [], h, _ => by simp at h
  | i :: is, e :: es, hl, h => by
    rw [List.zip_cons_cons, List.all_cons, Bool.and_eq_true] at h
    obtain ⟨i1, i2, i3⟩ := pgs_allS nd fnT (is := is) (es := es) (by simpa using hl) h.2
    cases e <;> try (exact absurd h.1 Bool.false_ne_true)
    rename_i x p
    have h1 : X.N[i]? = some x ∧ stoB X.env.scope x = true := by simpa using h.1
    refine ⟨pgs_cons (pg_name nd h1.1 (loc_sto h1.2) (.inl (fnT x))) i1 rfl, ?_, ?_⟩
    · show (assignEach es X.env).length + 1 = is.length + 1
      rw [i2]
    · show List.findIdx? (·.1) ((false, _) :: assignEach es X.env) = none
      rw [List.findIdx?_cons, i3]
      rfl
theorem s_gS {tg : Tg} (g : Gs X T P n W) (h : okGS X.N X.env.scope tg x = true) : PG X x (tG X.K tg) := by
  cases tg with
  | nm i =>
    cases x <;> simp only [okGS] at h <;> try (cases h; done)
    simp only [Bool.and_eq_true, decide_eq_true_eq] at h
    exact pg_name g.nd h.1 (loc_sto h.2) (.inl (g.fnT _))
  | tp is =>
    cases x <;> simp only [okGS] at h <;> try (cases h; done)
    rename_i es k p
    rw [Bool.and_eq_true] at h
    obtain ⟨i1, i2, i3⟩ := pgs_allS g.nd g.fnT (of_decide_eq_true h.1) h.2
    exact pg_tup g.calm i1 i2 i3
/-- a plain store -/
theorem c_set {i : Nat} : ∀ (D : Ends) (σ : L2.St) (H : Hp), tS X W fr (exS P (.set i e)) D σ H → tAsg (tK X P W 0 e) (gName i) D σ H := fun D σ H ⟨He, Ge, G, ρ, s, h⟩ => by
  simp only [exS] at h
  refine bndS s h fun d v H1 G1 x1 r1 s1 q1 => ?_
  exact q1 _ H1 G1 (s1.set r1 i)
theorem c_setO {i : Nat} : ∀ (D : Ends) (σ : L2.St) (H : Hp), tS X W fr (exS P (.setO i e)) D σ H → tAsg (tK X P W 2 e) (gName i) D σ H := fun D σ H ⟨He, Ge, G, ρ, s, h⟩ => by
  simp only [exS] at h
  refine bndS s h fun d v H1 G1 x1 r1 s1 q1 => ?_
  obtain ⟨a, vs, ds, rfl, rfl, na, ga, ha, rr⟩ := r1
  exact q1 _ H1 G1 (s.setO x1 na ga ha rr i)
/-- the store of any term -/
theorem s_store {i : Nat} {nm : Str} {t : TE} (g : Gs X T P n W) (hi : X.N[i]? = some nm) (hs : stoB X.env.scope nm = true) (hl : isLc y = false) (he : PE X y t) : PS X (.Assign [.Name nm py] y pos) (tAsg t (gName i)) :=
  ps_set g.nd hi (loc_sto hs) he (swaps_plain hl) (.inl (g.fnT nm))
theorem s_storeC {i : Nat} {nm : Str} {t : TE} {elt : Expr} {cs : List Comprehension} {scope : Scope} {p : Pos} (g : Gs X T P n W) (hi : X.N[i]? = some nm) (hc : X.env.scope.names.lookup nm = some .cell) (he : PE X (.ListComp elt cs scope p) t) :
    PS X (.Assign [.Name nm py] (.ListComp elt cs scope p) pos) (tAsg t (gName i)) :=
  ps_set g.nd hi (.inr hc) he (swaps_cell hc) (.inl (g.fnT nm))
theorem tAsg_mono {t t' : TE} {g : TG} (h : ∀ σ H Q, t' σ H Q → t σ H Q) (D : Ends) (σ : L2.St) (H : Hp) (q : tAsg t' g D σ H) : tAsg t g D σ H := h _ _ _ q
/-- the parts of a comprehension that is stored -/
theorem s_lcStore {own : List Nat} {tg : Tg} {it : NW.It} {tt elt : E} {i : Nat} {nm : Str} {z : Expr} {cs : List Comprehension} {scope : Scope} {p : Pos} (g : Gs X T P n W) (hi : X.N[i]? = some nm) (hl : locB X.env.scope nm = true) (hp : (py.line == p.line) = true)
    (ha : (scope.names.any fun (n, k) => n == nm && (k == .local || k == .cell)) = false) (h : okE T n X.N X.env.scope (.lc own tg it tt elt) (.ListComp z cs scope p) = true) :
    PS X (.Assign [.Name nm py] (.ListComp z cs scope p) pos) (tAsg (tK X P W 2 (.lc own tg it tt elt)) (gName i)) := by
  match cs, h with
  | [⟨tg', iter, ifs, asy⟩], h =>
    simp only [okE, Bool.and_eq_true, bne_iff_ne, decide_eq_true_eq] at h
    obtain ⟨⟨⟨⟨⟨⟨⟨⟨rfl, h1⟩, h2⟩, h3⟩, h4⟩, h5⟩, h6⟩, h7⟩, h8⟩ := h
    have hif : ifs = [] → tt = .bl true := fun e => by
      subst e
      have h7' : tyes tt = true := h7
      cases tt <;> simp [tyes] at h7'
      subst h7'
      rfl
    have hI := snd_I it X W tg' iter g.toGd h4
    have hG : ∀ (s : Shared) (H : Hp) (C : Addr) (cl : List (Str × Addr)) (fp : List Addr), PG (X.blk s H scope (compEnvC scope cl C X.env) fp) tg' (tG X.K tg) := fun s H C cl fp => s_g (X := X.blk s H scope (compEnvC scope cl C X.env) fp) (tg := tg) g.calm g.nd h5
    have hT : ∀ (s : Shared) (H : Hp) (C : Addr) (cl : List (Str × Addr)) (fp : List Addr), PTs (X.blk s H scope (compEnvC scope cl C X.env) fp) ifs (tIfs X P ifs tt) := fun s H C cl fp => by
      match ifs, h7 with
      | [], _ => exact pts_nil
      | [c], h7 =>
        simp only [Bool.and_eq_true, Bool.not_eq_true'] at h7
        exact pts_one ((snd_E tt (X.blk s H scope (compEnvC scope cl C X.env) fp) _ _ (g.toGd.blk s H scope _ fp) h7.2).pt h7.1)
      | _ :: _ :: _, h7 => cases h7
    have hE : ∀ (s : Shared) (H : Hp) (C : Addr) (cl : List (Str × Addr)) (fp : List Addr), PE (X.blk s H scope (compEnvC scope cl C X.env) fp) z (tK X P (fun _ _ _ _ => False) (kd T elt) elt) := fun s H C cl fp => (snd_E elt (X.blk s H scope (compEnvC scope cl C X.env) fp) _ _ (g.toGd.blk s H scope _ fp) h8).pe
    have hy := loc_of (N := X.N) hl
    refine PS.imp (ps_setLc (pos := p) (spos := pos) (py := py) g.calm g.nd hi hy (sw_true g.kind hy hp ha) hI (blkOk_by h1) hG hT hE (plain_fold h3)) ?_
    exact tAsg_mono (c_lc h2 h6 hif)
  | [], h => simp [okE] at h
  | _ :: _ :: _, h => simp [okE] at h
theorem okE_lc {N : List Str} {sc : Scope} {z : Expr} {cs : List Comprehension} {scope : Scope} {p : Pos} (h : okE T n N sc e (.ListComp z cs scope p) = true) : ∃ own tg it tt elt, e = .lc own tg it tt elt := by
  cases e <;> first | exact ⟨_, _, _, _, _, rfl⟩ | (simp [okE] at h; done)
/-- a store as the look lets it pass -/
theorem s_asg {i : Nat} {nm : Str} (g : Gs X T P n W) (hi : X.N[i]? = some nm) (hs : stoB X.env.scope nm = true) (hl : lcSwap X.env.scope nm py y = true) (h : okE T n X.N X.env.scope e y = true) : PS X (.Assign [.Name nm py] y pos) (tAsg (tK X P W (kd T e) e) (gName i)) := by
  have he := (snd_E e X W y g.toGd h).pe
  cases y with
  | ListComp z cs scope p =>
    unfold lcSwap at hl
    rw [Bool.or_eq_true] at hl
    rcases hl with hl | hl
    · simp only [Bool.and_eq_true, Bool.not_eq_true'] at hl
      obtain ⟨own, tg, it, tt, elt, rfl⟩ := okE_lc h
      exact s_lcStore g hi hl.1.1 hl.1.2 hl.2 h
    · exact s_storeC g hi (of_decide_eq_true hl) he
  | SetComp _ _ _ _ => simp [lcSwap] at hl
  | DictComp _ _ _ _ _ => simp [lcSwap] at hl
  | _ => exact s_store g hi hs rfl he
theorem s_tupA {is : List Nat} {t : Expr} (g : Gs X T P n W) (ht : okGS X.N X.env.scope (.tp is) t = true) (hl : isLc y = false) (hu : isTup y = false) (hk : kd T e ≠ 1) (he : PE X y (tK X P W (kd T e) e)) : PS X (.Assign [t] y pos) (tS X W fr (exS P (.tup is e))) := by
  have hG := s_gS (X := X) (tg := .tp is) g ht
  have hT : ∃ es k p, t = .Tuple es k p := by
    cases t <;> simp only [okGS] at ht <;> first | exact ⟨_, _, _, rfl⟩ | (cases ht; done)
  obtain ⟨es, k, p, rfl⟩ := hT
  refine PS.imp (ps_asg (stillE hk he) hG (by show swapsWith y (some (.Tuple es k p)) pos.line X.env = pure false; exact swaps_plain hl) ?_ rfl) fun D σ H ⟨He, Ge, G, ρ, s, h⟩ => ?_
  · cases y <;> first | rfl | (simp [isTup] at hu)
  · simp only [exS] at h
    refine bndS s h fun d v H1 G1 x1 r1 s1 q1 => ?_
    cases q : setT (.tp is) d ρ with
    | ok ρ1 => rw [q] at q1; exact s1.g_set r1 q fun σ' s' => q1 σ' H1 G1 s'
    | exc c z => cases d <;> simp only [setT] at q <;> first | (cases q; done) | (split at q <;> cases q)
    | bad => rw [q] at q1; exact q1.elim
theorem few_one {cpos : Pos} (hp : plainE y = true) : ((backTo cpos (starEach (y :: []) X.env)).all (fun x => !x.1) && (backToKw cpos (keywordEach [] X.env)).all (fun x => x.1.isSome)
      && decide ((y :: ([] : List Expr)).length + ([] : List Keyword).length + (if ([] : List Keyword).isEmpty then 0 else 1) < 30)) = true := by
  rw [star_cons hp]
  rfl
theorem s_app {i : Nat} {nm : Str} {np apos cpos : Pos} (g : Gs X T P n W) (hi : X.N[i]? = some nm) (hv : visB X.env.scope nm = true) (ho : okN nm = true) (hl : (apos.endLine == cpos.line) = true) (hp : plainE y = true) (hk : kd T e ≠ 1)
    (he : PE X y (tK X P W (kd T e) e)) : PS X (.Expr (.Call (.Attribute (.Name nm np) "append" apos) [y] [] cpos) pos) (tS X W fr (exS P (.app i e))) := by
  refine PS.imp (ps_expr (pe_bm PySem.F.plainAttrs_list PySem.F.slot_list_append PySem.F.type_list_append mt_append (pe_var hi (vis_of hv) (okN_d ho) (okN_c ho)) (pa_cons (stillE hk he) pa_nil (star_cons hp)) rfl (few_one hp) hl (star_cons hp) rfl) rfl) fun D σ H ⟨He, Ge, G, ρ, s, h⟩ => ?_
  simp only [exS] at h
  cases hd : getS ρ i with
  | ow ds =>
    rw [hd] at h
    have e0 := getS_some hd nofun
    obtain ⟨o, h1, a, vs, rfl, h2, ga, rr⟩ := s.er.at_ i _ e0
    refine ⟨_, h1, .inl ⟨rfl, vs, SqL.of h2⟩, ?_⟩
    refine bndS s h fun d v H1 G1 x1 r1 s1 q1 => ?_
    split at q1
    · rename_i hz
      obtain ⟨o', h1', a', vs', ea, h2', ga', rr'⟩ := s1.er.at_ i _ e0
      rw [h1] at h1'
      cases h1'
      cases ea
      refine ⟨a, vs', v, rfl, rfl, h2', lt_line (by rw [rr'.length]; exact hz), ?_⟩
      exact q1 σ _ G1 (s1.chg e0 h1 (rr'.append (.cons r1 .nil)))
    · exact q1.elim
  | un => rw [hd] at h; exact h.elim
  | fz _ => rw [hd] at h; exact h.elim
  | ln _ => rw [hd] at h; exact h.elim
  | ex _ _ _ _ => rw [hd] at h; exact h.elim
theorem s_rev {i : Nat} {nm : Str} {np apos cpos : Pos} (g : Gs X T P n W) (hi : X.N[i]? = some nm) (hv : visB X.env.scope nm = true) (ho : okN nm = true) (hl : (apos.endLine == cpos.line) = true) :
    PS X (.Expr (.Call (.Attribute (.Name nm np) "reverse" apos) [] [] cpos) pos) (tS X W fr (exS P (.rev i))) := by
  refine PS.imp (ps_expr (pe_bm0 PySem.F.plainAttrs_list PySem.F.slot_list_reverse PySem.F.type_list_reverse mt_reverse (pe_var hi (vis_of hv) (okN_d ho) (okN_c ho)) rfl hl) rfl) fun D σ H ⟨He, Ge, G, ρ, s, h⟩ => ?_
  simp only [exS] at h
  cases hd : getS ρ i with
  | ow ds =>
    rw [hd] at h
    have e0 := getS_some hd nofun
    obtain ⟨o, h1, a, vs, rfl, h2, ga, rr⟩ := s.er.at_ i _ e0
    exact ⟨_, h1, .inl ⟨rfl, vs, SqL.of h2⟩, a, vs, rfl, rfl, h2, h σ _ G (s.chg e0 h1 rr.reverse)⟩
  | un => rw [hd] at h; exact h.elim
  | fz _ => rw [hd] at h; exact h.elim
  | ln _ => rw [hd] at h; exact h.elim
  | ex _ _ _ _ => rw [hd] at h; exact h.elim
theorem s_ext {i : Nat} {nm : Str} {np apos cpos : Pos} (g : Gs X T P n W) (hi : X.N[i]? = some nm) (hv : visB X.env.scope nm = true) (ho : okN nm = true) (hl : (apos.endLine == cpos.line) = true) (hp : plainE y = true)
    (he : PE X y (tK X P W 2 e)) : PS X (.Expr (.Call (.Attribute (.Name nm np) "extend" apos) [y] [] cpos) pos) (tS X W fr (exS P (.ext i e))) := by
  refine PS.imp (ps_expr (pe_bm PySem.F.plainAttrs_list PySem.F.slot_list_extend PySem.F.type_list_extend mt_extend (pe_var hi (vis_of hv) (okN_d ho) (okN_c ho)) (pa_cons he pa_nil (star_cons hp)) rfl (few_one hp) hl (star_cons hp) rfl) rfl) fun D σ H ⟨He, Ge, G, ρ, s, h⟩ => ?_
  simp only [exS] at h
  cases hd : getS ρ i with
  | ow ds =>
    rw [hd] at h
    have e0 := getS_some hd nofun
    obtain ⟨o, h1, a, vs, rfl, h2, ga, rr⟩ := s.er.at_ i _ e0
    refine ⟨_, h1, .inl ⟨rfl, vs, SqL.of h2⟩, ?_⟩
    refine bndS s h fun d v H1 G1 x1 r1 s1 q1 => ?_
    obtain ⟨b, ws, es, rfl, rfl, nb, gb, hb, rb⟩ := r1
    simp only at q1
    split at q1
    · rename_i hz
      obtain ⟨o', h1', a', vs', ea, h2', ga', rr'⟩ := s1.er.at_ i _ e0
      rw [h1] at h1'
      cases h1'
      cases ea
      refine ⟨a, b, vs', ws, rfl, rfl, h2', hb, by rw [rr'.length, rb.length]; exact le_line (Nat.le_of_lt hz), ?_⟩
      exact q1 σ _ G1 (s1.chg e0 h1 (rr'.append rb))
    · exact q1.elim
  | un => rw [hd] at h; exact h.elim
  | fz _ => rw [hd] at h; exact h.elim
  | ln _ => rw [hd] at h; exact h.elim
  | ex _ _ _ _ => rw [hd] at h; exact h.elim
/-- a loop over what is walked -/
theorem s_for {tmp : List Nat} {tg : Tg} {it : NW.It} {body : Ss} {t : Expr} {b : List Stmt} (g : Gs X T P n W) (hno : isOwn it = false) (ht : okGS X.N X.env.scope tg t = true) (hp : plainE x = true) (hi : PI X t x (tI X P W it)) (hb : PSs X b (tS X W fr (exSs P body))) :
    PS X (.For t x b [] pos) (tS X W fr (exS P (.for_ tmp tg it body))) := by
  refine PS.imp (ps_for g.pass g.calm hi (s_gS g ht) hb (plain_fold hp)) fun D σ H ⟨He, Ge, G, ρ, s, h⟩ => ?_
  simp only [exS] at h
  refine ⟨He, G, ρ, s.er, ?_⟩
  rw [bI_no hno]
  cases qi : evI P it ρ with
  | exc c z => rw [qi] at h; exact fun cls dx H' G' x r => h cls dx σ H' G' (s.ext.trans x) r
  | bad => rw [qi] at h; exact h
  | ok xs =>
    rw [qi] at h
    simp only [out_ok] at h
    intro J H1 G1 x1 Y
    have s1 := s.on x1
    refine ⟨fun i m σ' H' => m = xs.length - i ∧ i ≤ xs.length ∧ ∃ G' ρ', SR X.K He G1 ρ' σ' H' G' ∧ EndS X W fr He Ge D (forL tmp (fun x ρ => Out.of (setT tg x ρ) (exSs P body)) (xs.drop i) ρ'),
      ⟨xs.length, by simp, Nat.zero_le _, G1, ρ, s1.base, h⟩, ?_⟩
    rintro i m σ2 H2 ⟨rfl, hle, G2, ρ2, s2, h2⟩
    have s2' := s2.un tmp
    by_cases hlt : i < xs.length
    · refine .inr ⟨Y.go i H2 G2 hlt s2.er.bas s2.ext.stl s2.er.sub, fun σ' H' => ∃ m', m' < xs.length - i ∧ (m' = xs.length - (i + 1) ∧ i + 1 ≤ xs.length ∧ ∃ G' ρ', SR X.K He G1 ρ' σ' H' G' ∧ EndS X W fr He Ge D (forL tmp (fun x ρ => Out.of (setT tg x ρ) (exSs P body)) (xs.drop (i + 1)) ρ')),
        fun σ' H' h => h, fun v H3 y => ?_⟩
      obtain ⟨d, G3, hd, x3, rd⟩ := Y.yld i H2 G2 v H3 hlt s2.er.bas s2.ext.stl s2.er.sub y
      have edrop : xs.drop i = d :: xs.drop (i + 1) := by
        rw [List.drop_eq_getElem_cons hlt]
        have := (List.getElem?_eq_some_iff.mp hd).2
        rw [this]
      rw [edrop] at h2
      simp only [forL] at h2
      have s3 := s2'.on x3
      have xE : Ext He Ge H1 G1 := s1.ext
      cases qs : setT tg d (unS tmp ρ2) with
      | exc c z =>
        cases tg with
        | nm i => simp only [setT] at qs; cases qs
        | tp is => cases d <;> simp only [setT] at qs <;> first | (cases qs; done) | (split at qs <;> cases qs)
      | bad => rw [qs] at h2; exact h2.elim
      | ok ρ3 =>
        rw [qs] at h2
        simp only [out_ok] at h2
        refine s3.g_set rd qs fun σ4 s4 => ?_
        refine ⟨He, G1, G3, ρ3, s4, ?_⟩
        cases qo : exSs P body ρ3 with
        | nx ρ5 =>
          rw [qo] at h2
          exact fun σ6 H6 G6 s6 => ⟨xs.length - (i + 1), by omega, rfl, hlt, G6, ρ5, s6, h2⟩
        | ct ρ5 =>
          rw [qo] at h2
          exact fun σ6 H6 G6 s6 => ⟨xs.length - (i + 1), by omega, rfl, hlt, G6, ρ5, s6, h2⟩
        | ret d => rw [qo] at h2; exact fun v H G x r => h2 v H G (xE.rebase x) r
        | exc c z => rw [qo] at h2; exact fun cls dx σ H G x r => h2 cls dx σ H G (xE.rebase x) r
        | bad => rw [qo] at h2; exact h2
    · have e : i = xs.length := by omega
      subst e
      rw [List.drop_length] at h2
      simp only [forL] at h2
      exact .inl ⟨Y.stop H2 G2 s2.er.bas s2.ext.stl s2.er.sub, h2 σ2 H2 G2 (s2'.rebase s1.ext)⟩
theorem s_whil {fuel : En → Nat} {tmp : List Nat} {c : E} {body : Ss} {b : List Stmt} (g : Gs X T P n W) (hc : PT X x (tT X P W c)) (hb : PSs X b (tS X W fr (exSs P body))) :
    PS X (.While x b [] pos) (tS X W fr (exS P (.whil fuel tmp c body))) := by
  refine PS.imp (ps_while g.pass hc hb) fun D σ H ⟨He, Ge, G, ρ, s, h⟩ => ?_
  simp only [exS] at h
  refine ⟨fun m σ' H' => ∃ G' ρ', SR X.K He Ge ρ' σ' H' G' ∧ EndS X W fr He Ge D (whilL tmp (fun ρ => ev P c ρ >>= fun d => truD d) (exSs P body) m ρ'), ⟨fuel ρ, G, ρ, s, h⟩, ?_⟩
  rintro m σ2 H2 ⟨G2, ρ2, s2, h2⟩
  cases m with
  | zero => exact h2.elim
  | succ m =>
    simp only [whilL] at h2
    refine bndST (s2.un tmp) h2 fun r H1 G1 x1 s1 q1 => ?_
    cases r with
    | true =>
      rw [if_pos rfl]
      simp only at q1
      refine ⟨fun σ' H' => ∃ m', m' < m + 1 ∧ ∃ G' ρ', SR X.K He Ge ρ' σ' H' G' ∧ EndS X W fr He Ge D (whilL tmp (fun ρ => ev P c ρ >>= fun d => truD d) (exSs P body) m' ρ'), fun σ' H' h => h, He, Ge, G1, unS tmp ρ2, s1, ?_⟩
      cases qo : exSs P body (unS tmp ρ2) with
      | nx ρ5 => rw [qo] at q1; exact fun σ6 H6 G6 s6 => ⟨m, Nat.lt_succ_self m, G6, ρ5, s6, q1⟩
      | ct ρ5 => rw [qo] at q1; exact fun σ6 H6 G6 s6 => ⟨m, Nat.lt_succ_self m, G6, ρ5, s6, q1⟩
      | ret d => rw [qo] at q1; exact q1
      | exc c z => rw [qo] at q1; exact q1
      | bad => rw [qo] at q1; exact q1
    | false =>
      rw [if_neg Bool.false_ne_true]
      exact q1 _ H1 G1 s1
/-- a constant as it is written -/
def cstV : E → V
  | .bl b => .bl b
  | .str x => .str x
  | _ => .non
def cstD : E → Dat
  | .bl b => .bool b
  | .str x => .str x
  | _ => .none
theorem s_cst {h : E} {w : Expr} (hc : cstOk h w = true) : PE X w (tC (cstV h)) ∧ isLc w = false ∧ (∀ ρ, ev P h ρ = .ok (cstD h)) ∧ ∀ G, Rep X.K G (cstV h) (cstD h) := by
  cases h <;> cases w <;> simp only [cstOk] at hc <;> try (cases hc; done)
  all_goals rename_i c k p
  all_goals cases c <;> simp only at hc <;> try (cases hc; done)
  · exact ⟨pe_non, rfl, fun ρ => by simp only [ev]; rfl, fun _ => .non⟩
  · rename_i b b'
    have e := eq_of_beq hc
    subst e
    exact ⟨pe_bl, rfl, fun ρ => by simp only [ev]; rfl, fun _ => .bl _⟩
  · rename_i b b'
    have e := of_decide_eq_true hc
    subst e
    exact ⟨pe_str, rfl, fun ρ => by simp only [ev]; rfl, fun _ => .str _⟩
theorem s_rais {c m : Str} {k : Nat} {np p2 cp : Pos} (g : Gs X T P n W) (hg : glB X.env.scope c = true) (ho : okN c = true) (hx : T.exs.contains c = true) :
    PS X (.Raise (some (.Call (.Name c np) [.Constant (.str m) k p2] [] cp)) none pos) (tS X W fr (exS P (.rais c))) := by
  obtain ⟨C, h1, h2⟩ := g.exs c (List.contains_iff_mem.mp hx)
  have hg' : X.env.scope.names.lookup c = some .globalImplicit := of_decide_eq_true hg
  have tk := g.tk
  cases hcl : T.cl with
  | false =>
    rw [hcl] at tk
    refine PS.imp (ps_raise g.calm tk (pmk_own PySem.F.excBase_ValueError h2.exc h1 h2.keep (raises_own h2.sub h2.ty) hg' (okN_d ho))) fun D σ H ⟨He, Ge, G, ρ, s, q⟩ => ?_
    simp only [exS] at q
    exact q (.ref C) none σ H G s.ext ⟨⟨C, h1, rfl⟩, rfl⟩
  | true =>
    rw [hcl] at tk
    refine PS.imp (L2N.ps_raise g.calm tk (L2N.pmk_own PySem.F.excBase_ValueError h2.exc h1 h2.keep (raises_own h2.sub h2.ty) hg' (okN_d ho))) fun D σ H ⟨He, Ge, G, ρ, s, q⟩ => ?_
    simp only [exS] at q
    exact q (.ref C) none σ H G s.ext ⟨⟨C, h1, rfl⟩, rfl⟩
theorem tk_low (g : Gs X T P n W) (h : T.cl = false) : Takes X W := by
  have tk := g.tk
  rw [h] at tk
  exact tk
theorem s_raisX {c : Str} {e : E} {np cp : Pos} (g : Gs X T P n W) (hg : glB X.env.scope c = true) (ho : okN c = true) (hx : T.exr.contains c = true) (hcl : T.cl = false) (hn : 2 ≤ n) (hp : plainE y = true) (hk : kd T e ≠ 1) (he : PE X y (tK X P W (kd T e) e)) :
    PS X (.Raise (some (.Call (.Name c np) [y] [] cp)) none pos) (tS X W fr (exS P (.raisX c e))) := by
  obtain ⟨C, h1, fI, fd, r1, r2, r3, r4, r5, r6, r7, r8⟩ := g.exr c (List.contains_iff_mem.mp hx)
  have hg' : X.env.scope.names.lookup c = some .globalImplicit := of_decide_eq_true hg
  refine PS.imp (ps_raise g.calm (tk_low g hcl) (pmk_oex r1 r3 r4 r5 (g.room.mono hn) r7 .nil passes0 hg' h1 (pa_cons (stillE hk he) pa_nil (star_cons hp)) (okN_d ho) (star_cons hp) rfl)) fun D σ H ⟨He, Ge, G, ρ, s, q⟩ => ?_
  simp only [exS] at q
  refine bndS s q fun d v H1 G1 x1 rv s1 q1 => ?_
  refine mk_row (H := H1) (v := v) (Q := fun cls d H' => W cls d σ H') r1 r2 fun a dx na nd hda => ?_
  obtain ⟨m1, m2⟩ := made_row (mg := X.mg) (c := c) s1.er.sub na nd hda h1 rv
  exact q1 _ _ σ _ _ (s1.ext.trans m1) m2
theorem Gs.tr (g : Gs X T P n W) {W' : WX} {pn : List (Addr × Obj)} {xe : Value → Shared → Prop} (tk : TkB T.cl (X.tr pn xe) W') (ps : PassesOwn (model X.prog X.w) X.A X.env xe) : Gs (X.tr pn xe) T P n W' :=
  ⟨⟨g.calm, g.nd, g.room, tk, g.fns, g.cons, g.blt, g.exs, g.exm, g.iss, g.exr⟩, ps, g.fnT, g.kind, g.stk, g.frm⟩
theorem Gs.tr0 (g : Gs X T P n W) (hcl : T.cl = false) {W' : WX} {pn : List (Addr × Obj)} {xe : Value → Shared → Prop} (tk : Takes (X.tr pn xe) W') (ps : PassesOwn (model X.prog X.w) X.A X.env xe) : Gs (X.tr pn xe) T P n W' :=
  g.tr (by rw [hcl]; exact tk) ps
/-- what a try's body gives, its value then kept by f -/
def tTry (X : Cx) (P : Pg) (W : WX) (k : Nat) (e : E) (f : V → Hp → L2.St → Hp → Ends → Prop) : TS := fun D σ H => tK X P W k e σ H fun v H1 => f v H1 σ H1 D
theorem try_end {i : Option Nat} {c : Str} {j : Nat} {h : E} {D : Ends} {σ : L2.St} {H He Ge G : Hp} {ρ : En} {k : Nat} {C : Addr} {v : V} {dv : Dat} {Q : VK} (g : Gs X T P n W) (hC : X.mg c = some (.ref C)) (hv : ∀ ρ, ev P h ρ = .ok dv) (rv : ∀ G, Rep X.K G v dv)
    (s : SR X.K He Ge ρ σ H G) (q : EndS X W fr He Ge D (tryO (fun c' => P.X c' c) i j ρ (ev P h ρ) (ev P e ρ)))
    (ok : ∀ d x H1 G1, Ext H G H1 G1 → RK X.K k H H1 G1 x d → SR X.K He Ge ρ σ H1 G1 → EndS X W fr He Ge D (keepO i ρ d) → Q x H1) :
    tK X P (wOnly X.K (.ref C) (fun _ _ _ D σ H => D.nx (σ.set j (some v)) H) W D) k e σ H Q := by
  refine ⟨He, G, ρ, s.er, ?_⟩
  cases qe : ev P e ρ with
  | ok d =>
    rw [qe] at q
    exact fun x H1 G1 x1 r1 => ok d x H1 G1 x1 r1 (s.on x1) q
  | exc c' z =>
    rw [qe, hv ρ] at q
    simp only [tryO] at q
    cases qm : P.X c' c with
    | none => rw [qm] at q; exact q.elim
    | some b =>
      rw [qm] at q
      obtain ⟨C1, C2, m1, m2, m3⟩ := g.exm c' c b qm
      rw [hC] at m2
      cases m2
      intro cls dx H1 G1 x1 r1
      obtain ⟨⟨C3, m4, rfl⟩, r2⟩ := r1
      rw [m1] at m4
      cases m4
      refine ⟨b, m3, fun hb a _ => ?_, fun hb => ?_⟩
      · subst hb
        exact q _ H1 G1 ((s.on x1).set (rv G1) j)
      · subst hb
        exact q _ dx σ H1 G1 (s.ext.trans x1) ⟨⟨C1, m1, rfl⟩, r2⟩
  | bad => rw [qe] at q; exact q.elim
theorem s_tryE {c z : Str} {i : Option Nat} {j : Nat} {h : E} {w : Expr} {body : List Stmt} {np zp ap hp tp : Pos} {k : Nat} {Qk : V → L2.St → Hp → Ends → Prop} (g : Gs X T P n W) (hcl : T.cl = false) (hg : glB X.env.scope c = true) (ho : okN c = true) (hj : X.N[j]? = some z) (hs : stoB X.env.scope z = true) (hw : cstOk h w = true) (hm : ∃ C, X.mg c = some (.ref C))
    (hb : ∀ (W' : WX) (pn : List (Addr × Obj)) (xe : Value → Shared → Prop), Gs (X.tr pn xe) T P n W' → PSs (X.tr pn xe) body (fun D σ H => tK X P W' k e σ H fun v H1 => Qk v σ H1 D))
    (hq : ∀ (D : Ends) (σ : L2.St) (He Ge H1 G1 : Hp) (ρ : En) (H : Hp) (x : V) (d : Dat), RK X.K k H H1 G1 x d → SR X.K He Ge ρ σ H1 G1 → EndS X W fr He Ge D (keepO i ρ d) → Qk x σ H1 D) :
    PS X (.Try body [.ExceptHandler (some (.Name c np)) none [.Assign [.Name z zp] w ap] hp] [] [] tp) (tS X W fr (exS P (.tryE i e c j h))) := by
  obtain ⟨C, hC⟩ := hm
  obtain ⟨p1, p2, p3, p4⟩ := s_cst (P := P) (X := X) hw
  have hg' : X.env.scope.names.lookup c = some .globalImplicit := of_decide_eq_true hg
  refine PS.imp (ps_try_only (ts := fun _ _ _ D σ H => D.nx (σ.set j (some (cstV h))) H) g.stk g.frm ⟨hg', okN_d ho, .inl hC⟩ (tk_low g hcl) (fun W' pn xe tk ps => hb W' pn xe (g.tr0 hcl tk ps)) fun a oe cls d pn _ _ => ?_) fun D σ H ⟨He, Ge, G, ρ, s, q⟩ => ?_
  · have z := s_cst (P := P) (X := X.suite a ((a, oe) :: pn)) hw
    exact PSs.imp (pss_one (ps_set (X := X.suite a ((a, oe) :: pn)) g.nd hj (loc_sto hs) z.1 (swaps_plain z.2.1) (.inl (g.fnT _)))) fun D σ H q => q
  · simp only [exS] at q
    exact try_end g hC p3 p4 s q fun d x H1 G1 x1 r1 s1 q1 => hq D σ He Ge H1 G1 ρ H x d r1 s1 q1
/-- a slot's thing is an exception -/
theorem SR.setX (s : SR X.K He Ge ρ σ H G) (i : Nat) (a : Addr) (c : Str) : SR X.K He Ge (ρ.set i (.ex a none c none)) (σ.set i (some (.ref a))) H G := by
  have key : ∀ (j : Nat) (ds : List Dat), (ρ.set i (.ex a none c none))[j]? = some (.ow ds) → j ≠ i ∧ ρ[j]? = some (.ow ds) := fun j ds e => by
    by_cases h : i = j
    · subst h
      rw [List.getElem?_set] at e
      simp at e
    · rw [List.getElem?_set_ne h] at e
      exact ⟨fun z => h z.symm, e⟩
  refine ⟨s.ext, ⟨s.er.bas, s.er.sub, by simp [s.er.len], fun j z e => ?_⟩, fun j ds b e1 e2 => ?_, fun j k ds es b hjk e1 e2 e3 e4 => ?_⟩
  · by_cases h : i = j
    · subst h
      have hi : i < ρ.length := by
        by_cases hi : i < ρ.length
        · exact hi
        · rw [List.getElem?_eq_none (by rw [List.length_set]; omega)] at e; cases e
      rw [List.getElem?_set_self hi] at e
      cases e
      exact ⟨_, List.getElem?_set_self (by rw [← s.er.len]; exact hi), rfl, rfl⟩
    · rw [List.getElem?_set_ne h] at e
      obtain ⟨o, h1, h2⟩ := s.er.at_ j z e
      exact ⟨o, by rw [List.getElem?_set_ne h]; exact h1, h2⟩
  · obtain ⟨n1, e1⟩ := key j ds e1
    rw [List.getElem?_set_ne (fun z => n1 z.symm)] at e2
    exact s.own j ds b e1 e2
  · obtain ⟨n1, e1⟩ := key j ds e1
    obtain ⟨n2, e2⟩ := key k es e2
    rw [List.getElem?_set_ne (fun z => n1 z.symm)] at e3
    rw [List.getElem?_set_ne (fun z => n2 z.symm)] at e4
    exact s.sep j k ds es b hjk e1 e2 e3 e4
/-- a slot is emptied -/
theorem SR.unset (s : SR X.K He Ge ρ σ H G) (i : Nat) {o : Option V} : SR X.K He Ge (ρ.set i .un) (σ.set i o) H G := by
  have key : ∀ (j : Nat) (ds : List Dat), (ρ.set i .un)[j]? = some (.ow ds) → j ≠ i ∧ ρ[j]? = some (.ow ds) := fun j ds e => by
    by_cases h : i = j
    · subst h
      rw [List.getElem?_set] at e
      simp at e
    · rw [List.getElem?_set_ne h] at e
      exact ⟨fun z => h z.symm, e⟩
  refine ⟨s.ext, ⟨s.er.bas, s.er.sub, by simp [s.er.len], fun j z e => ?_⟩, fun j ds b e1 e2 => ?_, fun j k ds es b hjk e1 e2 e3 e4 => ?_⟩
  · by_cases h : i = j
    · subst h
      have hi : i < ρ.length := by
        by_cases hi : i < ρ.length
        · exact hi
        · rw [List.getElem?_eq_none (by rw [List.length_set]; omega)] at e; cases e
      rw [List.getElem?_set_self hi] at e
      cases e
      exact ⟨_, List.getElem?_set_self (by rw [← s.er.len]; exact hi), trivial⟩
    · rw [List.getElem?_set_ne h] at e
      obtain ⟨o, h1, h2⟩ := s.er.at_ j z e
      exact ⟨o, by rw [List.getElem?_set_ne h]; exact h1, h2⟩
  · obtain ⟨n1, e1⟩ := key j ds e1
    rw [List.getElem?_set_ne (fun z => n1 z.symm)] at e2
    exact s.own j ds b e1 e2
  · obtain ⟨n1, e1⟩ := key j ds e1
    obtain ⟨n2, e2⟩ := key k es e2
    rw [List.getElem?_set_ne (fun z => n1 z.symm)] at e3
    rw [List.getElem?_set_ne (fun z => n2 z.symm)] at e4
    exact s.sep j k ds es b hjk e1 e2 e3 e4
/-- the questions about a caught exception, as terms -/
def isEs (a : Addr) (dx : Option Addr) (c : Str) (i : Nat) : List Str → Es
  | [] => .nil
  | C :: r => .cons (.iss a dx c i C) (isEs a dx c i r)
theorem evs_is {a : Addr} {dx : Option Addr} {c : Str} {i : Nat} {ρ : En} {x : Option Dat} (h : getS ρ i = .ex a dx c x) : ∀ {l : List Str} {bs : List Bool}, isAll (P.I c) l = some bs → evs P (isEs a dx c i l) ρ = .ok (bs.map .bool)
  | [], bs, e => by
    simp only [isAll] at e
    cases e
    simp only [isEs, evs, List.map_nil]
  | C :: r, bs, e => by
    simp only [isAll] at e
    cases q1 : P.I c C with
    | none => rw [q1] at e; cases e
    | some b =>
      cases q2 : isAll (P.I c) r with
      | none => rw [q1, q2] at e; cases e
      | some bs' =>
        rw [q1, q2] at e
        cases e
        simp only [isEs, evs, ev, h, q1, evs_is h q2, ok_bind, List.map_cons]
        simp
/-- isinstance(e, c), e the exception that the suite holds, with or without a dict -/
def rIsX (K : PySem.W.Frag) (D a : Addr) (dx : Option Addr) : List V → Hp → VK → Prop := fun xs H Q => ∃ (c : V) (cv : Value) (b : Bool), xs = [.ref a, c] ∧ (∀ u, RelV c u → u = cv) ∧ PySem.W.kitOne K (.ref D) cv = some b ∧
  (dx = none ∨ ∃ dd fs, dx = some dd ∧ H dd = some (.xd fs)) ∧ Q (.bl b) H
theorem call_isX {X : Cx} {a D : Addr} {dx : Option Addr} {oe : Obj} {pn : List (Addr × Obj)} (C : ExcC X.K D) (hz : Zc (.ref D) dx oe) (hf : ∃ vs, oe.data = .fields vs) : CallR (X.suite a ((a, oe) :: pn)) (.builtin "isinstance") (rIsX X.K D a dx) := by
  intro pins s σ H xs us Q I r h
  obtain ⟨c, cv, b, rfl, hcv, e, hd, q⟩ := h
  cases r with
  | cons rx rr =>
    cases rr with
    | cons rt rr =>
      cases rr
      cases rx
      have ec := hcv _ rt
      subst ec
      obtain ⟨hget, _⟩ := I.pin (a, oe) (List.mem_append.mpr (.inl List.mem_cons_self))
      obtain ⟨vs, hv⟩ := hf
      have hcl : (PySem.W.clsIn X.K D).isSome = true := by
        have hh := C.hd
        unfold PySem.W.hasDictIn at hh
        cases qc : PySem.W.clsIn X.K D with
        | none => rw [qc] at hh; cases hh
        | some _ => rfl
      have J : ∃ od, PySem.W.InstAt s.heap a oe D od := by
        obtain ⟨z1, z2⟩ := hz
        rcases hd with rfl | ⟨dd, fs, rfl, hdd⟩
        · exact ⟨none, hget, z1, by unfold PySem.W.notCls; rw [hv] <;> rfl, by rw [z2]; trivial⟩
        · have hx : ObjOk X.prog X.w H s.heap dd (.xd fs) := I.hok dd _ hdd
          obtain ⟨mA, hns, hr⟩ := hx
          obtain ⟨od, ho, hl⟩ := lookIn_ns hns
          exact ⟨some od, hget, z1, by unfold PySem.W.notCls; rw [hv] <;> rfl, by rw [z2]; exact ho⟩
      obtain ⟨od, J⟩ := J
      exact PySem.W.kia_one (PySem.W.kitx_exc hcl C.hg C.hk C.hs C.ha C.hn C.ht C.hm) I.kIn J e (fun z => nomatch z) fun tk => ⟨.bl b, H, I.kept (t' := tk) fun _ _ z => z, rfl, q⟩
/-- isinstance(x, C) within the clause that holds the exception -/
theorem s_iss {a : Addr} {dx : Option Addr} {oe : Obj} {pn : List (Addr × Obj)} {c C x : Str} {i : Nat} {D : Addr} {np xp cp cpos : Pos} (g : Gs X T P n W) (hD : X.mg c = some (.ref D)) (hz : Zc (.ref D) dx oe) (hf : ∃ vs, oe.data = .fields vs)
    (hi : X.N[i]? = some x) (hv : visB X.env.scope x = true) (ho : okN x = true) (h1 : glB X.env.scope "isinstance" = true) (h2 : glB X.env.scope C = true) (h3 : okN C = true) :
    PE (X.suite a ((a, oe) :: pn)) (.Call (.Name "isinstance" np) [.Name x xp, .Name C cp] [] cpos) (tK (X.suite a ((a, oe) :: pn)) P (fun _ _ _ _ => False) 0 (.iss a dx c i C)) := by
  have g1 : X.env.scope.names.lookup ("isinstance" : Str) = some .globalImplicit := of_decide_eq_true h1
  have g2 : X.env.scope.names.lookup C = some .globalImplicit := of_decide_eq_true h2
  cases qI : P.I c C with
  | none =>
    refine ⟨fun pins s σ H Q I h => ?_⟩
    obtain ⟨B, G, ρ, er, q⟩ := h
    exfalso
    simp only [ev] at q
    cases e : getS ρ i <;> rw [e] at q <;> try (exact q)
    simp only at q
    split at q
    · rw [qI] at q; exact q
    · exact q
  | some b =>
    obtain ⟨D', m1, ec, _, hk⟩ := g.iss c C b qI
    rw [hD] at m1
    cases m1
    have fin : ∀ (cv : V) (cu : Value), RelV cv cu → (∀ u, RelV cv u → u = cu) → PySem.W.kitOne X.K (.ref D) cu = some b → PE (X.suite a ((a, oe) :: pn)) (.Name C cp) (tC cv) →
        PE (X.suite a ((a, oe) :: pn)) (.Call (.Name "isinstance" np) [.Name x xp, .Name C cp] [] cpos) (tK (X.suite a ((a, oe) :: pn)) P (fun _ _ _ _ => False) 0 (.iss a dx c i C)) := fun cv cu r1 r2 r3 hc => by
      refine PE.imp (pe_callB (X := X.suite a ((a, oe) :: pn)) (call_isX ec hz hf) g1 (g.blt _ (by decide +kernel)) PyProof.Rows.boot_isinstance (pa_cons (pe_var hi (vis_of hv) (okN_d ho) (okN_c ho)) (pa_cons hc pa_nil)) (by decide) (by decide) rfl rfl) fun σ H Q ⟨B, G, ρ, er, q⟩ => ?_
      simp only [ev] at q
      cases e : getS ρ i <;> rw [e] at q <;> try (exact q.elim)
      rename_i a' dx' c' x'
      simp only at q
      split at q
      · rename_i hh
        obtain ⟨rfl, rfl, rfl⟩ := hh
        rw [qI] at q
        obtain ⟨o, h1, h2, h3⟩ := er.at_ i _ (getS_some e nofun)
        subst h2
        refine ⟨_, h1, cv, cu, b, rfl, r2, r3, ?_, q (.bl b) H G (Ext.refl er.sub) (.bl b)⟩
        cases x' with
        | none => exact .inl h3
        | some d' =>
          obtain ⟨b', v', e1, e2, _⟩ := h3
          exact .inr ⟨b', _, e1, e2⟩
      · exact q.elim
    rcases hk with ⟨C', m2, m3⟩ | ⟨rfl, m2, m3⟩
    · exact fin (.ref C') (.ref C') rfl (fun u r => by cases r; rfl) m3 (pe_glob g2 m2 rfl (okN_d h3))
    · have hb : bootBuiltins ("ValueError" : Str) = some (.type "ValueError") := by decide +kernel
      exact fin (.ty "ValueError") (.type "ValueError") rfl (fun u r => by cases r; rfl) m3 (pe_bltn g2 m2 hb rfl (okN_n h3) (okN_d h3))
theorem s_isEs {a : Addr} {dx : Option Addr} {oe : Obj} {pn : List (Addr × Obj)} {c x : Str} {i : Nat} {D : Addr} (g : Gs X T P n W) (hD : X.mg c = some (.ref D)) (hz : Zc (.ref D) dx oe) (hf : ∃ vs, oe.data = .fields vs)
    (hi : X.N[i]? = some x) (hv : visB X.env.scope x = true) (ho : okN x = true) (h1 : glB X.env.scope "isinstance" = true) : ∀ {xs : List Expr} {l : List Str}, isCs x xs = some l → (l.all fun C => glB X.env.scope C && okN C) = true →
      PA (X.suite a ((a, oe) :: pn)) xs (tA (X.suite a ((a, oe) :: pn)) P (fun _ _ _ _ => False) [] (isEs a dx c i l))
  | [], l, e, _ => by
    simp only [isCs] at e
    cases e
    exact PA.imp pa_nil fun σ H Q ⟨B, G, ρ, er, q⟩ => by
      simp only [isEs, evs] at q
      exact q [] H G (Ext.refl er.sub) .nil
  | e :: r, l, el, hl => by
    simp only [isCs] at el
    cases q1 : isC1 x e with
    | none => rw [q1] at el; cases el
    | some C =>
      cases q2 : isCs x r with
      | none => rw [q1, q2] at el; cases el
      | some Cs =>
        rw [q1, q2] at el
        cases el
        obtain ⟨np, xp, cp, pos, rfl⟩ := isC1_ok q1
        rw [List.all_cons, Bool.and_eq_true, Bool.and_eq_true] at hl
        have A := s_iss (a := a) (oe := oe) (pn := pn) (np := np) (xp := xp) (cp := cp) (cpos := pos) (P := P) g hD hz hf hi hv ho h1 hl.1.1 hl.1.2
        have R := s_isEs (a := a) (oe := oe) (pn := pn) g hD hz hf hi hv ho h1 q2 hl.2
        refine PA.imp (pa_cons A R rfl) fun σ H Q ⟨B, G, ρ, er, q⟩ => ?_
        simp only [isEs, evs] at q
        refine bndA er q fun d v H1 G1 x1 r1 er1 q1 => ?_
        refine ⟨B, G1, ρ, er1, ?_⟩
        cases e1 : evs P (isEs a dx c i Cs) ρ with
        | ok ds =>
          rw [e1] at q1
          intro vs H2 G2 x2 r2
          exact q1 (v :: vs) H2 G2 x2 (.cons (by
            have r3 : Rep X.K G2 v d := r1.mono x2.stl
            simpa using r3) r2)
        | exc c z => rw [e1] at q1; exact q1
        | bad => rw [e1] at q1; exact q1
/-- what the clause does, as terms -/
def isSs (a : Addr) (c : Str) (i j : Nat) (n1 n2 : List Str) : Ss := .cons (.set j (.tup (isEs a none c i n1))) (.cons (.set j (.bin .add (.var j) (.tup (isEs a none c i n2)))) .nil)
theorem is_run {a : Addr} {c : Str} {i j : Nat} {n1 n2 : List Str} {b1 b2 : List Bool} {ρ : En} (h1 : isAll (P.I c) n1 = some b1) (h2 : isAll (P.I c) n2 = some b2) (hi : i < ρ.length) (hj : j < ρ.length) (hij : i ≠ j) (hl : b1.length + b2.length ≤ 1000) :
    exSs P (isSs a c i j n1 n2) (ρ.set i (.ex a none c none)) = .nx (((ρ.set i (.ex a none c none)).set j (.fz (.tuple (b1.map .bool)))).set j (.fz (.tuple ((b1 ++ b2).map .bool)))) := by
  have g0 : getS (ρ.set i (.ex a none c none)) i = .ex a none c none := by
    unfold getS
    rw [List.getD_eq_getElem?_getD, List.getElem?_set_self hi]
    rfl
  have g1 : getS ((ρ.set i (.ex a none c none)).set j (.fz (.tuple (b1.map .bool)))) i = .ex a none c none := by
    unfold getS
    rw [List.getD_eq_getElem?_getD, List.getElem?_set_ne (fun z => hij z.symm), List.getElem?_set_self hi]
    rfl
  have g2 : getS ((ρ.set i (.ex a none c none)).set j (.fz (.tuple (b1.map .bool)))) j = .fz (.tuple (b1.map .bool)) := by
    unfold getS
    rw [List.getD_eq_getElem?_getD, List.getElem?_set_self (by rw [List.length_set]; exact hj)]
    rfl
  have l1 : (b1.map PyData.bool).length ≤ 1000000 := by rw [List.length_map]; omega
  have l2 : (b2.map PyData.bool).length ≤ 1000000 := by rw [List.length_map]; omega
  have e1 : ev P (.tup (isEs a none c i n1)) (ρ.set i (.ex a none c none)) = .ok (.tuple (b1.map .bool)) := by
    simp only [ev, evs_is g0 h1, ok_bind, if_pos l1]
  have e2 : ev P (.bin .add (.var j) (.tup (isEs a none c i n2))) ((ρ.set i (.ex a none c none)).set j (.fz (.tuple (b1.map .bool)))) = .ok (.tuple ((b1 ++ b2).map .bool)) := by
    have l3 : (b1.map PyData.bool).length + (b2.map PyData.bool).length ≤ 1000000 := by rw [List.length_map, List.length_map]; omega
    simp only [ev, g2, evs_is g1 h2, ok_bind, if_pos l2, binD, if_pos l3, List.map_append]
  simp only [isSs, exSs, exS, e1, e2, out_ok, thn_nx]
theorem s_tryI {c x z : Str} {i j : Nat} {n1 n2 : List Str} {e : E} {y : Expr} {xs ys : List Expr} {yp np hp tp zp p1 a1 zp' zq p2 p3 a2 : Pos} {k1 k2 : Nat} (g : Gs X T P n W) (hcl : T.cl = false) (hg : glB X.env.scope c = true) (ho : okN c = true) (hm : ∃ C, X.mg c = some (.ref C)) (hy : isLc y = false) (he : okE T n X.N X.env.scope e y = true)
    (hi : X.N[i]? = some x) (hx : locB X.env.scope x = true) (hxo : okN x = true) (hj : X.N[j]? = some z) (hs : stoB X.env.scope z = true) (hv : visB X.env.scope z = true) (hzo : okN z = true) (hI : glB X.env.scope "isinstance" = true) (q1 : isCs x xs = some n1) (q2 : isCs x ys = some n2)
    (ha : ((n1 ++ n2).all fun C => glB X.env.scope C && okN C) = true) :
    PS X (.Try [.Expr y yp] [.ExceptHandler (some (.Name c np)) (some x) [.Assign [.Name z zp] (.Tuple xs k1 p1) a1, .Assign [.Name z zp'] (.BinOp (.Name z zq) .Add (.Tuple ys k2 p2) p3) a2] hp] [] [] tp) (tS X W fr (exS P (.tryI e c i j n1 n2))) := by
  obtain ⟨C, hC⟩ := hm
  have hg' : X.env.scope.names.lookup c = some .globalImplicit := of_decide_eq_true hg
  have hln : X.env.kindOf x = some .local := of_decide_eq_true hx
  have hxv : visB X.env.scope x = true := by
    unfold visB
    have : X.env.scope.names.lookup x = some .local := hln
    rw [this]
  rw [List.all_append, Bool.and_eq_true] at ha
  refine PS.imp (ps_try_as (ts := fun a cls d D σ H => ∃ c' D', X.mg c' = some (.ref D') ∧ cls = .ref D' ∧ d = none ∧ tS X (fun _ _ _ _ => False) 0 (exSs P (isSs a c' i j n1 n2)) D σ H) (tb := fun W' => tDrop (tK X P W' (kd T e) e)) g.stk g.frm g.nd hi hln ⟨hg', okN_d ho, .inl hC⟩ (tk_low g hcl)
    (fun W' pn xe tk ps => pss_one (ps_expr (snd_E e (X.tr pn xe) W' y (g.tr0 hcl tk ps).toGd he).pe (swaps_plain hy))) fun a oe cls d pn hz hf => ?_) fun D σ H ⟨He, Ge, G, ρ, s, q⟩ => ?_
  · refine ⟨fun pins s σ H D I h => ?_⟩
    obtain ⟨c', D', m1, rfl, rfl, h⟩ := h
    have A1 := s_isEs (a := a) (oe := oe) (pn := pn) (P := P) (i := i) g m1 hz hf hi hxv hxo hI q1 ha.1
    have A2 := s_isEs (a := a) (oe := oe) (pn := pn) (P := P) (i := i) g m1 hz hf hi hxv hxo hI q2 ha.2
    have t1 := s_tup (k := k1) (pos := p1) A1
    have t2 := s_tup (k := k2) (pos := p2) A2
    have vz : PE (X.suite a ((a, oe) :: pn)) (.Name z zq) (tK (X.suite a ((a, oe) :: pn)) P (fun _ _ _ _ => False) 0 (.var j)) := s_var (X := X.suite a ((a, oe) :: pn)) (T := T) (n := n) (i := j) (nm := z) (by
      simp only [okE, Bool.and_eq_true, decide_eq_true_eq]
      exact ⟨⟨hj, hv⟩, hzo⟩)
    have b2 := s_bin (o := .add) (pos := p3) vz t2
    have P1 := PS.imp (ps_set (X := X.suite a ((a, oe) :: pn)) (pos := a1) (pos' := zp) g.nd hj (loc_sto hs) t1 (swaps_plain rfl) (.inl (g.fnT _))) (c_set (W := fun _ _ _ _ => False) (fr := 0))
    have P2 := PS.imp (ps_set (X := X.suite a ((a, oe) :: pn)) (pos := a2) (pos' := zp') g.nd hj (loc_sto hs) b2 (swaps_plain rfl) (.inl (g.fnT _))) (c_set (W := fun _ _ _ _ => False) (fr := 0))
    have A : PSs (X.suite a ((a, oe) :: pn)) [.Assign [.Name z zp] (.Tuple xs k1 p1) a1, .Assign [.Name z zp'] (.BinOp (.Name z zq) .Add (.Tuple ys k2 p2) p3) a2] (tS (X.suite a ((a, oe) :: pn)) (fun _ _ _ _ => False) 0 (exSs P (isSs a c' i j n1 n2))) := by
      refine PSs.imp (pss_cons P1 (pss_cons P2 pss_nil)) fun D σ H ⟨He, Ge, G, ρ, z, q⟩ => ?_
      simp only [isSs, exSs] at q
      refine ⟨He, Ge, G, ρ, z, ?_⟩
      cases qo : exS P (.set j (.tup (isEs a none c' i n1))) ρ with
      | nx ρ5 =>
        rw [qo] at q
        refine fun σ6 H6 G6 s6 => ⟨He, Ge, G6, ρ5, s6, ?_⟩
        simp only [thn_nx] at q
        cases qo2 : exS P (.set j (.bin .add (.var j) (.tup (isEs a none c' i n2)))) ρ5 with
        | nx ρ7 => rw [qo2] at q; exact q
        | ct ρ7 => rw [qo2] at q; exact q
        | ret d => rw [qo2] at q; exact q
        | exc c z => rw [qo2] at q; exact q
        | bad => rw [qo2] at q; exact q
      | ct ρ5 => rw [qo] at q; exact q
      | ret d => rw [qo] at q; exact q
      | exc c z => rw [qo] at q; exact q
      | bad => rw [qo] at q; exact q
    exact A.run pins s σ H D I h
  · simp only [exS] at q
    refine ⟨He, G, ρ, s.er, ?_⟩
    cases qe : ev P e ρ with
    | ok d =>
      rw [qe] at q
      exact fun v H1 G1 x1 r1 => q σ H1 G1 (s.on x1)
    | bad => rw [qe] at q; exact q.elim
    | exc c' w =>
      rw [qe] at q
      simp only [tryIO] at q
      cases qm : P.X c' c with
      | none => rw [qm] at q; exact q.elim
      | some b =>
        rw [qm] at q
        obtain ⟨C1, C2, m1, m2, m3⟩ := g.exm c' c b qm
        rw [hC] at m2
        cases m2
        intro cls dx H1 G1 x1 r1
        obtain ⟨⟨C3, m4, rfl⟩, r2⟩ := r1
        rw [m1] at m4
        cases m4
        refine ⟨b, m3, fun hb a na => ?_, fun hb => ?_⟩
        · subst hb
          simp only at q
          cases w with
          | some _ => exact q.elim
          | none =>
            cases w1 : isAll (P.I c') n1 with
            | none => rw [w1] at q; exact q.elim
            | some b1 =>
              cases w2 : isAll (P.I c') n2 with
              | none => rw [w1, w2] at q; exact q.elim
              | some b2 =>
                rw [w1, w2] at q
                simp only at q
                split at q
                · rename_i hh
                  obtain ⟨l1, l2, l3, l4⟩ := hh
                  refine ⟨c', C1, m1, rfl, r2, He, Ge, G1, _, (s.on x1).setX i a c', ?_⟩
                  rw [is_run w1 w2 l1 l2 l3 l4]
                  intro σ5 H5 G5 s5
                  have s6 := s5.unset i (o := none)
                  have e : (((ρ.set i (.ex a none c' none)).set j (.fz (.tuple (b1.map .bool)))).set j (.fz (.tuple ((b1 ++ b2).map .bool)))).set i .un = (ρ.set j (.fz (.tuple ((b1 ++ b2).map .bool)))).set i .un := by
                    rw [List.set_set, List.set_comm _ _ (fun z => l3 z), List.set_set]
                  rw [e] at s6
                  exact q _ H5 G5 s6
                · exact q.elim
        · subst hb
          exact q _ dx σ H1 G1 (s.ext.trans x1) ⟨⟨C1, m1, rfl⟩, r2⟩
/-- a statement, then others -/
theorem pss_S {X : Cx} {W : WX} {fr : Nat} {st : Stmt} {sts : List Stmt} {s : S} {r : Ss} (A : PS X st (tS X W fr (exS P s))) (B : PSs X sts (tS X W fr (exSs P r))) : PSs X (st :: sts) (tS X W fr (exSs P (.cons s r))) := by
  refine PSs.imp (pss_cons A B) fun D σ H ⟨He, Ge, G, ρ, z, q⟩ => ?_
  simp only [exSs] at q
  refine ⟨He, Ge, G, ρ, z, ?_⟩
  cases qo : exS P s ρ with
  | nx ρ5 => rw [qo] at q; exact fun σ6 H6 G6 s6 => ⟨He, Ge, G6, ρ5, s6, q⟩
  | ct ρ5 => rw [qo] at q; exact q
  | ret d => rw [qo] at q; exact q
  | exc c z => rw [qo] at q; exact q
  | bad => rw [qo] at q; exact q
/-- a slot's thing is an exception with a row -/
theorem SR.setXr {He Ge H G : Hp} {ρ : En} {σ : L2.St} (s : SR X.K He Ge ρ σ H G) (i : Nat) (a : Addr) (c : Str) {dx : Addr} {v : V} {d : Dat} (hx : H dx = some (.xd [(("row" : Str), v)])) (rv : Rep X.K G v d) : SR X.K He Ge (ρ.set i (.ex a (some dx) c (some d))) (σ.set i (some (.ref a))) H G := by
  have key : ∀ (j : Nat) (ds : List Dat), (ρ.set i (.ex a (some dx) c (some d)))[j]? = some (.ow ds) → j ≠ i ∧ ρ[j]? = some (.ow ds) := fun j ds e => by
    by_cases h : i = j
    · subst h
      rw [List.getElem?_set] at e
      simp at e
    · rw [List.getElem?_set_ne h] at e
      exact ⟨fun z => h z.symm, e⟩
  refine ⟨s.ext, ⟨s.er.bas, s.er.sub, by simp [s.er.len], fun j z e => ?_⟩, fun j ds b e1 e2 => ?_, fun j k ds es b hjk e1 e2 e3 e4 => ?_⟩
  · by_cases h : i = j
    · subst h
      have hi : i < ρ.length := by
        by_cases hi : i < ρ.length
        · exact hi
        · rw [List.getElem?_eq_none (by rw [List.length_set]; omega)] at e; cases e
      rw [List.getElem?_set_self hi] at e
      cases e
      exact ⟨_, List.getElem?_set_self (by rw [← s.er.len]; exact hi), rfl, dx, v, rfl, hx, rv⟩
    · rw [List.getElem?_set_ne h] at e
      obtain ⟨o, h1, h2⟩ := s.er.at_ j z e
      exact ⟨o, by rw [List.getElem?_set_ne h]; exact h1, h2⟩
  · obtain ⟨n1, e1⟩ := key j ds e1
    rw [List.getElem?_set_ne (fun z => n1 z.symm)] at e2
    exact s.own j ds b e1 e2
  · obtain ⟨n1, e1⟩ := key j ds e1
    obtain ⟨n2, e2⟩ := key k es e2
    rw [List.getElem?_set_ne (fun z => n1 z.symm)] at e3
    rw [List.getElem?_set_ne (fun z => n2 z.symm)] at e4
    exact s.sep j k ds es b hjk e1 e2 e3 e4
theorem s_row {a : Addr} {dx : Option Addr} {oe : Obj} {pn : List (Addr × Obj)} {c x : Str} {i : Nat} {D : Addr} {xp rp : Pos} (g : Gs X T P n W) (ec : ExcC X.K D) (hno : PySem.W.findIn X.K (.ref D) "row" = some none) (hz : Zc (.ref D) dx oe) (hf : ∃ vs, oe.data = .fields vs)
    (hi : X.N[i]? = some x) (hv : visB X.env.scope x = true) (ho : okN x = true) : PE (X.suite a ((a, oe) :: pn)) (.Attribute (.Name x xp) "row" rp) (tK (X.suite a ((a, oe) :: pn)) P (fun _ _ _ _ => False) 0 (.xrw a dx c i)) := by
  refine PE.imp (pe_xf (X := X) ⟨ec.hg, ec.hk, ec.hs, ec.hd⟩ hno hz hf (pe_var (X := X.suite a ((a, oe) :: pn)) hi (vis_of hv) (okN_d ho) (okN_c ho))) fun σ H Q ⟨B, G, ρ, er, q⟩ => ?_
  simp only [ev] at q
  cases e : getS ρ i <;> rw [e] at q <;> try (exact q.elim)
  rename_i a' dx' c' x'
  cases x' with
  | none => exact q.elim
  | some d =>
    simp only at q
    split at q
    · rename_i hh
      obtain ⟨rfl, rfl, rfl⟩ := hh
      obtain ⟨o, h1, h2, dd, v, h3, h4, h5⟩ := er.at_ i _ (getS_some e nofun)
      subst h2
      exact ⟨_, h1, rfl, rfl, dd, _, v, h3, h4, by simp [List.lookup], q v H G (Ext.refl er.sub) h5⟩
    · exact q.elim
theorem pa_two {X : Cx} {W : WX} {e : Expr} {es : List Expr} {t : E} {r : Es} (A : PE X e (tK X P W 0 t)) (R : PA X es (tA X P W [] r)) (hs : starEach (e :: es) X.env = (false, eval e X.env) :: starEach es X.env) : PA X (e :: es) (tA X P W [] (.cons t r)) := by
  refine PA.imp (pa_cons A R hs) fun σ H Q ⟨B, G, ρ, er, q⟩ => ?_
  simp only [evs] at q
  refine bndA er q fun d v H1 G1 x1 r1 er1 q1 => ?_
  refine ⟨B, G1, ρ, er1, ?_⟩
  cases e1 : evs P r ρ with
  | ok ds =>
    rw [e1] at q1
    intro vs H2 G2 x2 r2
    exact q1 (v :: vs) H2 G2 x2 (.cons (by
      have r3 : Rep X.K G2 v d := Rep.mono x2.stl r1
      simpa using r3) r2)
  | exc c z => rw [e1] at q1; exact q1
  | bad => rw [e1] at q1; exact q1
/-- the clause's statements, as terms -/
def addSs (a : Addr) (dx : Option Addr) (c : Str) (i j : Nat) : List (List Str) → Ss
  | [] => .nil
  | n :: r => .cons (.set j (.bin .add (.var j) (.tup (isEs a dx c i n)))) (addSs a dx c i j r)
def rowSs (a : Addr) (dx : Option Addr) (c : Str) (i j : Nat) (n : List Str) (r : List (List Str)) : Ss := .cons (.set j (.tup (.cons (.xrw a dx c i) (isEs a dx c i n)))) (addSs a dx c i j r)
theorem isAll_app {f : Str → Option Bool} : ∀ {n m : List Str} {bs : List Bool}, isAll f (n ++ m) = some bs → ∃ b1 b2, isAll f n = some b1 ∧ isAll f m = some b2 ∧ bs = b1 ++ b2
  | [], m, bs, h => ⟨[], bs, rfl, h, rfl⟩
  | c :: n, m, bs, h => by
    simp only [List.cons_append, isAll] at h
    cases q1 : f c with
    | none => rw [q1] at h; cases h
    | some b =>
      cases q2 : isAll f (n ++ m) with
      | none => rw [q1, q2] at h; cases h
      | some bs' =>
        rw [q1, q2] at h
        cases h
        obtain ⟨b1, b2, e1, e2, rfl⟩ := isAll_app q2
        exact ⟨b :: b1, b2, by simp only [isAll, q1, e1], e2, rfl⟩
theorem add_run {a : Addr} {dx : Option Addr} {c : Str} {i j : Nat} {x : Option Dat} : ∀ {ns : List (List Str)} {bs : List Bool} {ds : List Dat} {ρ : En}, isAll (P.I c) ns.flatten = some bs → getS ρ i = .ex a dx c x → i ≠ j → j < ρ.length → ds.length + bs.length ≤ 2000 →
    exSs P (addSs a dx c i j ns) (ρ.set j (.fz (.tuple ds))) = .nx (ρ.set j (.fz (.tuple (ds ++ bs.map .bool))))
  | [], bs, ds, ρ, h, _, _, _, _ => by
    simp only [List.flatten_nil, isAll] at h
    cases h
    simp only [addSs, exSs, List.map_nil, List.append_nil]
  | n :: r, bs, ds, ρ, h, hi, hij, hj, hl => by
    rw [List.flatten_cons] at h
    obtain ⟨b1, b2, e1, e2, rfl⟩ := isAll_app h
    rw [List.length_append] at hl
    have g1 : getS (ρ.set j (.fz (.tuple ds))) i = .ex a dx c x := by
      unfold getS at hi ⊢
      rw [List.getD_eq_getElem?_getD] at hi ⊢
      rw [List.getElem?_set_ne (fun z => hij z.symm)]
      exact hi
    have g2 : getS (ρ.set j (.fz (.tuple ds))) j = .fz (.tuple ds) := by
      unfold getS
      rw [List.getD_eq_getElem?_getD, List.getElem?_set_self hj]
      rfl
    have l1 : (b1.map PyData.bool).length ≤ 1000000 := by rw [List.length_map]; omega
    have l2 : ds.length + (b1.map PyData.bool).length ≤ 1000000 := by rw [List.length_map]; omega
    have e3 : ev P (.bin .add (.var j) (.tup (isEs a dx c i n))) (ρ.set j (.fz (.tuple ds))) = .ok (.tuple (ds ++ b1.map .bool)) := by
      simp only [ev, g2, evs_is g1 e1, ok_bind, if_pos l1, binD, if_pos l2]
    have ih := add_run (ns := r) (bs := b2) (ds := ds ++ b1.map .bool) e2 hi hij hj (by rw [List.length_append, List.length_map]; omega)
    simp only [addSs, exSs, exS, e3, out_ok, thn_nx, List.set_set]
    rw [ih, List.map_append, List.append_assoc]
theorem row_run {a : Addr} {dx : Option Addr} {c : Str} {i j : Nat} {n : List Str} {r : List (List Str)} {bs : List Bool} {d : Dat} {ρ : En} (h : isAll (P.I c) (n :: r).flatten = some bs) (hi : i < ρ.length) (hj : j < ρ.length) (hij : i ≠ j) (hl : bs.length ≤ 1000) :
    exSs P (rowSs a dx c i j n r) (ρ.set i (.ex a dx c (some d))) = .nx ((ρ.set i (.ex a dx c (some d))).set j (.fz (.tuple (d :: bs.map .bool)))) := by
  rw [List.flatten_cons] at h
  obtain ⟨b1, b2, e1, e2, rfl⟩ := isAll_app h
  rw [List.length_append] at hl
  have g0 : getS (ρ.set i (.ex a dx c (some d))) i = .ex a dx c (some d) := by
    unfold getS
    rw [List.getD_eq_getElem?_getD, List.getElem?_set_self hi]
    rfl
  have l1 : (d :: b1.map PyData.bool).length ≤ 1000000 := by rw [List.length_cons, List.length_map]; omega
  have e3 : ev P (.tup (.cons (.xrw a dx c i) (isEs a dx c i n))) (ρ.set i (.ex a dx c (some d))) = .ok (.tuple (d :: b1.map .bool)) := by
    simp only [ev, evs, g0, evs_is g0 e1, ok_bind, if_pos l1, and_self, if_true]
  have z := add_run (P := P) (a := a) (dx := dx) (c := c) (i := i) (j := j) (x := some d) (ns := r) (bs := b2) (ds := d :: b1.map .bool) (ρ := ρ.set i (.ex a dx c (some d))) e2 g0 hij (by rw [List.length_set]; exact hj) (by rw [List.length_cons, List.length_map]; omega)
  simp only [rowSs, exSs, exS, e3, out_ok, thn_nx]
  rw [z, List.map_append, List.cons_append]
theorem s_restR {a : Addr} {dx : Option Addr} {oe : Obj} {pn : List (Addr × Obj)} {c x z : Str} {i j : Nat} {D : Addr} (g : Gs X T P n W) (hD : X.mg c = some (.ref D)) (hz : Zc (.ref D) dx oe) (hf : ∃ vs, oe.data = .fields vs)
    (hi : X.N[i]? = some x) (hv : visB X.env.scope x = true) (ho : okN x = true) (hj : X.N[j]? = some z) (hs : stoB X.env.scope z = true) (hvz : visB X.env.scope z = true) (hoz : okN z = true) (h1 : glB X.env.scope "isinstance" = true) :
    ∀ {sts : List Stmt} {ns : List (List Str)}, restR x z sts = some ns → (ns.flatten.all fun C => glB X.env.scope C && okN C) = true → PSs (X.suite a ((a, oe) :: pn)) sts (tS (X.suite a ((a, oe) :: pn)) (fun _ _ _ _ => False) 0 (exSs P (addSs a dx c i j ns)))
  | [], ns, e, _ => by
    simp only [restR] at e
    cases e
    exact PSs.imp pss_nil fun D σ H ⟨He, Ge, G, ρ, s, q⟩ => by
      simp only [addSs, exSs] at q
      exact q σ H G s
  | s :: sts, ns, e, ha => by
    obtain ⟨zp, zq, xs, k, p, pos, pos2, n1, ns', rfl, q1, q2, rfl⟩ := restR_ok e
    rw [List.flatten_cons, List.all_append, Bool.and_eq_true] at ha
    have A2 := s_isEs (a := a) (dx := dx) (oe := oe) (pn := pn) (P := P) (i := i) g hD hz hf hi hv ho h1 q1 ha.1
    have t2 := s_tup (k := k) (pos := p) A2
    have vz : PE (X.suite a ((a, oe) :: pn)) (.Name z zq) (tK (X.suite a ((a, oe) :: pn)) P (fun _ _ _ _ => False) 0 (.var j)) := s_var (X := X.suite a ((a, oe) :: pn)) (T := T) (n := n) (i := j) (nm := z) (by
      simp only [okE, Bool.and_eq_true, decide_eq_true_eq]
      exact ⟨⟨hj, hvz⟩, hoz⟩)
    have b2 := s_bin (o := .add) (pos := pos) vz t2
    have P2 := PS.imp (ps_set (X := X.suite a ((a, oe) :: pn)) (pos := pos2) (pos' := zp) g.nd hj (loc_sto hs) b2 (swaps_plain rfl) (.inl (g.fnT _))) (c_set (W := fun _ _ _ _ => False) (fr := 0))
    exact pss_S P2 (s_restR g hD hz hf hi hv ho hj hs hvz hoz h1 q2 ha.2)
theorem s_tryR {e : E} {c : Str} {i j : Nat} {ns : List (List Str)} {st : Stmt} (g : Gs X T P n W) (h : okTryR T n X.N X.env.scope e c i j ns st = true) : PS X st (tS X W fr (exS P (.tryR e c i j ns))) := by
  unfold okTryR at h
  cases qt : tryA c st with
  | none => rw [qt] at h; cases h
  | some p0 =>
    obtain ⟨b, x, sts⟩ := p0
    rw [qt] at h
    obtain ⟨np, hp, tp, rfl⟩ := tryA_ok qt
    simp only at h
    cases qb : expr1 b with
    | none => rw [qb] at h; cases sts <;> cases h
    | some y =>
      cases sts with
      | nil => rw [qb] at h; cases h
      | cons s0 r =>
        rw [qb] at h
        simp only at h
        cases q0 : firstR x s0 with
        | none => rw [q0] at h; cases h
        | some p1 =>
          obtain ⟨z, n0⟩ := p1
          rw [q0] at h
          simp only at h
          cases qr : restR x z r with
          | none => rw [qr] at h; cases h
          | some nr =>
            rw [qr] at h
            simp only [Bool.and_eq_true, decide_eq_true_eq, Bool.not_eq_true'] at h
            obtain ⟨⟨⟨⟨⟨⟨⟨⟨⟨⟨⟨⟨⟨⟨⟨⟨rfl, hne⟩, hg⟩, ho⟩, hx⟩, hcl⟩, hy⟩, he⟩, hi⟩, hxl⟩, hxo⟩, hj⟩, hs⟩, hv⟩, hzo⟩, hI⟩, ha⟩ := h
            obtain ⟨yp, rfl⟩ := expr1_ok qb
            obtain ⟨zp, xp, rp, xs, k, p, pos1, rfl, q3⟩ := firstR_ok q0
            have hC : ∃ C, X.mg c = some (.ref C) := by
              rw [Bool.or_eq_true] at hx
              rcases hx with hx | hx
              · obtain ⟨C, h, _⟩ := g.exs _ (List.contains_iff_mem.mp hx)
                exact ⟨C, h⟩
              · obtain ⟨C, h, _⟩ := g.exr _ (List.contains_iff_mem.mp hx)
                exact ⟨C, h⟩
            obtain ⟨C, hC⟩ := hC
            have hg' : X.env.scope.names.lookup c = some .globalImplicit := of_decide_eq_true hg
            have hln : X.env.kindOf x = some .local := of_decide_eq_true hxl
            have hxv : visB X.env.scope x = true := by
              unfold visB
              have : X.env.scope.names.lookup x = some .local := hln
              rw [this]
            have ha' := ha
            rw [List.flatten_cons, List.all_append, Bool.and_eq_true] at ha'
            refine PS.imp (ps_try_as (ts := fun a cls d D σ H => ∃ c' D', X.mg c' = some (.ref D') ∧ cls = .ref D' ∧ ExcC X.K D' ∧ PySem.W.findIn X.K (.ref D') "row" = some none ∧ tS X (fun _ _ _ _ => False) 0 (exSs P (rowSs a d c' i j n0 nr)) D σ H) (tb := fun W' => tDrop (tK X P W' (kd T e) e)) g.stk g.frm g.nd hi hln ⟨hg', okN_d ho, .inl hC⟩ (tk_low g hcl)
              (fun W' pn xe tk ps => pss_one (ps_expr (snd_E e (X.tr pn xe) W' y (g.tr0 hcl tk ps).toGd he).pe (swaps_plain hy))) fun a oe cls d pn hz hf => ?_) fun D σ H ⟨He, Ge, G, ρ, s, q⟩ => ?_
            · refine ⟨fun pins s σ H D I h => ?_⟩
              obtain ⟨c', D', m1, rfl, ec, hno, h⟩ := h
              have A0 := s_row (a := a) (oe := oe) (pn := pn) (P := P) (c := c') (i := i) (xp := xp) (rp := rp) g ec hno hz hf hi hxv hxo
              have A1 := s_isEs (a := a) (oe := oe) (pn := pn) (P := P) (i := i) g m1 hz hf hi hxv hxo hI q3 ha'.1
              have t1 := s_tup (k := k) (pos := p) (pa_two A0 A1 rfl)
              have P1 := PS.imp (ps_set (X := X.suite a ((a, oe) :: pn)) (pos := pos1) (pos' := zp) g.nd hj (loc_sto hs) t1 (swaps_plain rfl) (.inl (g.fnT _))) (c_set (W := fun _ _ _ _ => False) (fr := 0))
              exact (pss_S P1 (s_restR g m1 hz hf hi hxv hxo hj hs hv hzo hI qr ha'.2)).run pins s σ H D I h
            · simp only [exS] at q
              refine ⟨He, G, ρ, s.er, ?_⟩
              cases qe : ev P e ρ with
              | ok d =>
                rw [qe] at q
                exact fun v H1 G1 x1 r1 => q σ H1 G1 (s.on x1)
              | bad => rw [qe] at q; exact q.elim
              | exc c' w =>
                rw [qe] at q
                simp only [tryRO] at q
                cases qm : P.X c' c with
                | none => rw [qm] at q; exact q.elim
                | some b =>
                  rw [qm] at q
                  obtain ⟨C1, C2, m1, m2, m3⟩ := g.exm c' c b qm
                  rw [hC] at m2
                  cases m2
                  intro cls dx H1 G1 x1 r1
                  obtain ⟨⟨C3, m4, rfl⟩, r2⟩ := r1
                  rw [m1] at m4
                  cases m4
                  refine ⟨b, m3, fun hb a na => ?_, fun hb => ?_⟩
                  · subst hb
                    simp only at q
                    cases w with
                    | none => exact q.elim
                    | some d =>
                      cases w1 : isAll (P.I c') (n0 :: nr).flatten with
                      | none => rw [w1] at q; exact q.elim
                      | some bs =>
                        rw [w1] at q
                        simp only at q
                        split at q
                        · rename_i hh
                          obtain ⟨l1, l2, l3, l4⟩ := hh
                          obtain ⟨dd, v, e1, e2, e3⟩ := r2
                          subst e1
                          have hec : ExcC X.K C1 ∧ PySem.W.findIn X.K (.ref C1) "row" = some none := by
                            cases qf : (n0 :: nr).flatten with
                            | nil => rw [qf] at hne; cases hne
                            | cons C0 rest =>
                              rw [qf] at w1
                              simp only [isAll] at w1
                              cases qI : P.I c' C0 with
                              | none => rw [qI] at w1; cases w1
                              | some b0 =>
                                obtain ⟨D', k1, k2, k3, _⟩ := g.iss c' C0 b0 qI
                                rw [m1] at k1
                                cases k1
                                exact ⟨k2, k3⟩
                          refine ⟨c', C1, m1, rfl, hec.1, hec.2, He, Ge, G1, _, (s.on x1).setXr i a c' e2 e3, ?_⟩
                          rw [row_run w1 l1 l2 l3 l4]
                          intro σ5 H5 G5 s5
                          have s6 := s5.unset i (o := none)
                          have e : ((ρ.set i (.ex a (some dd) c' (some d))).set j (.fz (.tuple (d :: bs.map .bool)))).set i .un = (ρ.set j (.fz (.tuple (d :: bs.map .bool)))).set i .un := by
                            rw [List.set_comm _ _ (fun z => l3 z), List.set_set]
                          rw [e] at s6
                          exact q _ H5 G5 s6
                        · exact q.elim
                  · subst hb
                    exact q _ dx σ H1 G1 (s.ext.trans x1) ⟨⟨C1, m1, rfl⟩, r2⟩
/-- parts, of which some are new lists -/
inductive RAsF (K : PySem.W.Frag) (H G : Hp) : List Bool → List V → List Dat → Prop
  | nil {fl : List Bool} : RAsF K H G fl [] []
  | cons {b : Bool} {fl : List Bool} {v : V} {vs : List V} {d : Dat} {ds : List Dat} : Rep K G v d → (b = true → FreshL K H G v d) → RAsF K H G fl vs ds → RAsF K H G (b :: fl) (v :: vs) (d :: ds)
theorem RAsF.reps {K : PySem.W.Frag} {H G : Hp} : ∀ {fl : List Bool} {vs : List V} {ds : List Dat}, RAsF K H G fl vs ds → Reps K G vs ds
  | _, _, _, .nil => .nil
  | _, _, _, .cons r _ t => .cons r t.reps
theorem FreshL.mono {K : PySem.W.Frag} {H G G' : Hp} {v : V} {d : Dat} (s : Same G G') (f : FreshL K H G v d) : FreshL K H G' v d := fun ds e => by
  obtain ⟨a, vs, e1, e2, e3, e4⟩ := f ds e
  exact ⟨a, vs, e1, e2, s _ _ e3, e4.mono s⟩
theorem FreshL.back {K : PySem.W.Frag} {H H1 G : Hp} {v : V} {d : Dat} (s : Same H H1) (f : FreshL K H1 G v d) : FreshL K H G v d := fun ds e => by
  obtain ⟨a, vs, e1, e2, e3, e4⟩ := f ds e
  exact ⟨a, vs, e1, s.free e2, e3, e4⟩
theorem RAsF.back {K : PySem.W.Frag} {H H1 G : Hp} (s : Same H H1) : ∀ {fl : List Bool} {vs : List V} {ds : List Dat}, RAsF K H1 G fl vs ds → RAsF K H G fl vs ds
  | _, _, _, .nil => .nil
  | _, _, _, .cons r f t => .cons r (fun b => (f b).back s) (t.back s)
theorem RAsF.at_ {K : PySem.W.Frag} {H G : Hp} : ∀ {fl : List Bool} {vs : List V} {ds : List Dat}, RAsF K H G fl vs ds → ∀ (i : Nat) (u : V) (e : Dat), vs[i]? = some u → ds[i]? = some e → fl[i]? = some true → FreshL K H G u e
  | _, _, _, .nil, i, u, e, h, _, _ => by simp at h
  | _, _, _, .cons r f t, 0, u, e, h1, h2, h3 => by
    simp at h1 h2 h3
    subst h1 h2
    exact f h3
  | _, _, _, .cons r f t, i + 1, u, e, h1, h2, h3 => t.at_ i u e (by simpa using h1) (by simpa using h2) (by simpa using h3)
def EndAF (X : Cx) (W : WX) (fl : List Bool) (σ : L2.St) (H G : Hp) (Q : List V → Hp → Prop) : Res (List Dat) → Prop
  | .ok ds => ∀ vs H' G', Ext H G H' G' → RAsF X.K H G' fl vs ds → Q vs H'
  | .exc c x => ∀ cls dx H' G', Ext H G H' G' → XR X.K X.mg H' G' cls dx c x → W cls dx σ H'
  | .bad => False
def tAF (X : Cx) (P : Pg) (W : WX) (fl : List Bool) (es : Es) : TA := fun σ H Q => ∃ B G ρ, ER X.K B ρ σ H G ∧ EndAF X W fl σ H G Q (evs P es ρ)
theorem own_frz {K : PySem.W.Frag} {H G H' G' : Hp} {v : V} {d : Dat} (x : Ext H G H' G') (r : RK K 2 H H' G' v d) : ∃ G2, Ext H G H' G2 ∧ Rep K G2 v d ∧ FreshL K H G2 v d := by
  obtain ⟨a, vs, ds, rfl, rfl, na, ga, ha, rr⟩ := r
  have g1 : Same G' (upd G' a (.lst vs)) := fun b u q => by rw [upd_ne (ne_of_none q ga)]; exact q
  refine ⟨upd G' a (.lst vs), ⟨x.all, x.stl.trans g1, fun b u q => ?_, fun b q => ?_⟩, .lst (SqL.of upd_same) (rr.mono g1), fun es e => ?_⟩
  · by_cases hb : b = a
    · subst hb; rw [upd_same] at q; rw [← q]; exact ha
    · rw [upd_ne hb] at q; exact x.sub _ _ q
  · by_cases hb : b = a
    · subst hb; exact .inr na
    · rw [upd_ne hb] at q; exact x.new b q
  · cases e
    exact ⟨a, vs, rfl, na, upd_same, rr.mono g1⟩
theorem snd_AF : ∀ (es : Es) (X : Cx) (W : WX) (xs : List Expr), Gd X T P n W → okEs T n X.N X.env.scope [] es xs = true → PA X xs (tAF X P W (flE T es) es)
  | .nil, X, W, xs, g, h => by
    cases xs with
    | nil =>
      exact PA.imp pa_nil fun σ H Q ⟨B, G, ρ, er, q⟩ => by
        simp only [evs] at q
        exact q [] H G (Ext.refl er.sub) .nil
    | cons _ _ => simp [okEs] at h
  | .cons e r, X, W, xs, g, h => by
    cases xs with
    | nil => simp [okEs] at h
    | cons x xs =>
      simp only [okEs, Bool.and_eq_true, Bool.or_eq_true, bne_iff_ne] at h
      obtain ⟨⟨⟨h1, h2⟩, h3⟩, h4⟩ := h
      have A := (snd_E (P := P) e X W _ g h2).pe
      have R := snd_AF r X W _ g h4
      have hk : kd T e ≠ 1 := h3.resolve_right (by simp)
      by_cases h2k : kd T e = 2
      · rw [h2k] at A
        refine PA.imp (pa_cons A R (star_cons h1)) fun σ H Q ⟨B, G, ρ, er, q⟩ => ?_
        simp only [evs] at q
        refine ⟨B, G, ρ, er, ?_⟩
        cases qe : ev P e ρ with
        | exc c z => rw [qe] at q; exact q
        | bad => rw [qe] at q; exact q
        | ok d =>
          rw [qe] at q
          intro v H1 G1 x1 r1
          obtain ⟨G2, x2, rr, fr⟩ := own_frz x1 r1
          refine ⟨B, G2, ρ, er.ext x2, ?_⟩
          cases e1 : evs P r ρ with
          | ok ds =>
            rw [e1] at q
            intro vs H3 G3 x3 r3
            refine q (v :: vs) H3 G3 (x2.trans x3) ?_
            rw [flE]
            exact .cons (rr.mono x3.stl) (fun _ => fr.mono x3.stl) (r3.back x2.all)
          | exc c z => rw [e1] at q; exact fun cls dx H' G' y w => q cls dx H' G' (x2.trans y) w
          | bad => rw [e1] at q; exact q
      · refine PA.imp (pa_cons (stillE hk A) R (star_cons h1)) fun σ H Q ⟨B, G, ρ, er, q⟩ => ?_
        simp only [evs] at q
        refine ⟨B, G, ρ, er, ?_⟩
        cases qe : ev P e ρ with
        | exc c z => rw [qe] at q; exact q
        | bad => rw [qe] at q; exact q
        | ok d =>
          rw [qe] at q
          intro v H1 G1 x1 r1
          refine ⟨B, G1, ρ, er.ext x1, ?_⟩
          cases e1 : evs P r ρ with
          | ok ds =>
            rw [e1] at q
            intro vs H3 G3 x3 r3
            refine q (v :: vs) H3 G3 (x1.trans x3) ?_
            rw [flE]
            exact .cons (Rep.mono x3.stl r1) (fun b => absurd (of_decide_eq_true b) h2k) (r3.back x1.all)
          | exc c z => rw [e1] at q; exact fun cls dx H' G' y w => q cls dx H' G' (x1.trans y) w
          | bad => rw [e1] at q; exact q
/-- return (..), its new lists told -/
theorem s_retF {es : Es} {xs : List Expr} {k : Nat} {p : Pos} (g : Gs X T P n W) (h : okEs T n X.N X.env.scope [] es xs = true) : PS X (.Return (some (.Tuple xs k p)) pos) (tS X W 3 (exS P (.retF (flE T es) es))) := by
  refine PS.imp (ps_ret (pe_tup (snd_AF es X W xs g.toGd h))) fun D σ H ⟨He, Ge, G, ρ, s, q⟩ => ?_
  simp only [exS] at q
  refine ⟨He, G, ρ, s.er, ?_⟩
  cases qe : evs P es ρ with
  | exc c z => rw [qe] at q; exact fun cls dx H' G' x r => q cls dx σ H' G' (s.ext.trans x) r
  | bad => rw [qe] at q; exact q
  | ok ds =>
    rw [qe] at q
    simp only [out_ok] at q
    intro vs H1 G1 x1 r1
    split at q
    · rename_i hz
      obtain ⟨hz1, hz2⟩ := hz
      have s1 := s.on x1
      have rr := r1.reps
      refine ⟨by rw [rr.length]; exact le_line hz1, fun t nt => ?_⟩
      have x2 : Ext H1 G1 (upd H1 t (.tup vs)) (upd G1 t (.tup vs)) := Ext.made s1.er.sub nt _
      refine q _ _ _ (s.ext.trans (x1.trans x2)) ⟨.tup (SqT.of upd_same) (rr.mono x2.stl), fun ds' e => ?_⟩
      cases e
      refine ⟨t, vs, rfl, SqT.of upd_same, rr.length, fun i u e h1 h2 => ?_⟩
      cases hf : (flE T es)[i]? with
      | none => 
        exact fun es' he => by
          have := freshT_none hz2 i e h2 hf
          rw [he] at this
          cases this
      | some b =>
        cases b with
        | true => exact ((r1.at_ i u e h1 h2 hf).mono x2.stl).back s.ext.all
        | false =>
          exact fun es' he => by
            have := freshT_false hz2 i e h2 hf
            rw [he] at this
            cases this
    · exact q.elim
theorem tK_mono {k : Nat} {e : E} {σ : L2.St} {H : Hp} {Q Q' : VK} (q : tK X P W k e σ H Q) (h : ∀ v H1, Q v H1 → Q' v H1) : tK X P W k e σ H Q' := by
  obtain ⟨B, G, ρ, er, q⟩ := q
  refine ⟨B, G, ρ, er, ?_⟩
  cases qe : ev P e ρ with
  | ok d => rw [qe] at q; exact fun v H' G' x r => h _ _ (q v H' G' x r)
  | exc c z => rw [qe] at q; exact q
  | bad => rw [qe] at q; exact q
/-- .., behind them x -/
def EndAL (X : Cx) (W : WX) (a : Addr) (σ : L2.St) (H G : Hp) (Q : List V → Hp → Prop) : Res (List Dat) → Prop
  | .ok ds => ∀ vs H' G', Ext H G H' G' → Reps X.K G' vs ds → Q (vs ++ [.ref a]) H'
  | .exc c x => ∀ cls dx H' G', Ext H G H' G' → XR X.K X.mg H' G' cls dx c x → W cls dx σ H'
  | .bad => False
def tAL (X : Cx) (P : Pg) (W : WX) (i : Nat) (es : Es) : TA := fun σ H Q => ∃ B G ρ a, ER X.K B ρ σ H G ∧ σ[i]? = some (some (.ref a)) ∧ EndAL X W a σ H G Q (evs P es ρ)
theorem snd_AL {i : Nat} {nm : Str} : ∀ (es : Es) (X : Cx) (W : WX) (xs : List Expr), Gd X T P n W → X.N[i]? = some nm → visB X.env.scope nm = true → okN nm = true → okEsL T n X.N X.env.scope nm es xs = true → PA X xs (tAL X P W i es)
  | .nil, X, W, xs, g, h1, h2, h3, h => by
    match xs, h with
    | [], h => simp [okEsL] at h
    | _ :: _ :: _, h => simp [okEsL] at h
    | [e], h =>
      simp only [okEsL] at h
      obtain ⟨np, rfl⟩ := nmE_ok h
      refine PA.imp (pa_cons (pe_var h1 (vis_of h2) (okN_d h3) (okN_c h3)) pa_nil (star_cons rfl)) fun σ H Q ⟨B, G, ρ, a, er, k1, q⟩ => ?_
      simp only [evs] at q
      exact ⟨_, k1, q [] H G (Ext.refl er.sub) .nil⟩
  | .cons e r, X, W, xs, g, h1, h2, h3, h => by
    cases xs with
    | nil => simp [okEsL] at h
    | cons x xs =>
      simp only [okEsL, Bool.and_eq_true, bne_iff_ne] at h
      obtain ⟨⟨⟨k1, k2⟩, k3⟩, k4⟩ := h
      have A := (snd_E (P := P) e X W _ g k2).pe
      have R := snd_AL r X W _ g h1 h2 h3 k4
      refine PA.imp (pa_cons (stillE k3 A) R (star_cons k1)) fun σ H Q ⟨B, G, ρ, a, er, ka, q⟩ => ?_
      simp only [evs] at q
      refine ⟨B, G, ρ, er, ?_⟩
      cases qe : ev P e ρ with
      | exc c z => rw [qe] at q; exact q
      | bad => rw [qe] at q; exact q
      | ok d =>
        rw [qe] at q
        intro v H1 G1 x1 r1
        refine ⟨B, G1, ρ, a, er.ext x1, ka, ?_⟩
        cases e1 : evs P r ρ with
        | ok ds =>
          rw [e1] at q
          intro vs H3 G3 x3 r3
          exact q (v :: vs) H3 G3 (x1.trans x3) (.cons (Rep.mono x3.stl r1) r3)
        | exc c z => rw [e1] at q; exact fun cls dx H' G' y w => q cls dx H' G' (x1.trans y) w
        | bad => rw [e1] at q; exact q
theorem freshT_nil_at : ∀ {ds : List Dat}, freshT [] ds = true → ∀ (i : Nat) (e : Dat), ds[i]? = some e → isLst e = false := fun h i e h1 => freshT_none h i e h1 (by simp)
/-- return (.., x), x a list of one's own -/
theorem s_retL {es : Es} {xs : List Expr} {k i : Nat} {nm : Str} {p : Pos} (g : Gs X T P n W) (hi : X.N[i]? = some nm) (hv : visB X.env.scope nm = true) (ho : okN nm = true) (h : okEsL T n X.N X.env.scope nm es xs = true) : PS X (.Return (some (.Tuple xs k p)) pos) (tS X W 3 (exS P (.retL es i))) := by
  refine PS.imp (ps_ret (pe_tup (snd_AL es X W xs g.toGd hi hv ho h))) fun D σ H ⟨He, Ge, G, ρ, s, q⟩ => ?_
  simp only [exS] at q
  cases hd : getS ρ i with
  | ow ys =>
    simp only [hd] at q
    have e0 := getS_some hd nofun
    obtain ⟨o, k1, a, us, rfl, k2, ga, rr⟩ := s.er.at_ i _ e0
    refine ⟨He, G, ρ, a, s.er, k1, ?_⟩
    cases qe : evs P es ρ with
    | exc c z => rw [qe] at q; exact fun cls dx H' G' x r => q cls dx σ H' G' (s.ext.trans x) r
    | bad => rw [qe] at q; exact q
    | ok ds =>
      rw [qe] at q
      simp only [out_ok] at q
      intro vs H1 G1 x1 r1
      split at q
      · rename_i hz
        obtain ⟨hz1, hz2⟩ := hz
        obtain ⟨G2, a', us', s2, m1, m2, m3, m4, m5⟩ := (s.on x1).frz e0
        rw [k1] at m1
        cases m1
        have s1 := s.on x1
        refine ⟨by rw [List.length_append, r1.length]; exact le_line hz1, fun t nt => ?_⟩
        have x2 : Ext H1 G2 (upd H1 t (.tup (vs ++ [.ref a]))) (upd G2 t (.tup (vs ++ [.ref a]))) := Ext.made s2.er.sub nt _
        have ra : Rep X.K G2 (.ref a) (.list ys) := .lst (SqL.of m3) m4
        have rA : Reps X.K G2 (vs ++ [.ref a]) (ds ++ [.list ys]) := (r1.mono m5).append (.cons ra .nil)
        refine q _ _ _ (s2.ext.trans x2) ⟨.tup (SqT.of upd_same) (rA.mono x2.stl), fun ds' e => ?_⟩
        cases e
        refine ⟨t, _, rfl, SqT.of upd_same, rA.length, fun j u e h1 h2 => ?_⟩
        have hl := r1.length
        by_cases hj : j < ds.length
        · rw [List.getElem?_append_left hj] at h2
          exact fun es' he => by
            have := freshT_nil_at hz2 j e h2
            rw [he] at this
            cases this
        · rw [List.getElem?_append_right (by omega)] at h1 h2
          by_cases hj2 : j - ds.length = 0
          · rw [hj2] at h2
            rw [hl, hj2] at h1
            cases h1
            cases h2
            intro es' he
            cases he
            exact ⟨a, us', rfl, m2, x2.stl _ _ m3, m4.mono x2.stl⟩
          · obtain ⟨m, hm⟩ : ∃ m, j - ds.length = m + 1 := ⟨j - ds.length - 1, by omega⟩
            rw [hm] at h2
            cases h2
      · exact q.elim
  | un => rw [hd] at q; exact q.elim
  | fz _ => rw [hd] at q; exact q.elim
  | ln _ => rw [hd] at q; exact q.elim
  | ex _ _ _ _ => rw [hd] at q; exact q.elim
/-- x[k].append(..), x[k].clear() -/
def tApp (K : PySem.W.Frag) (i k : Nat) (t : TE) : TS := fun D σ H => ∃ u vs a ws, σ[i]? = some (some (.ref u)) ∧ SqT K H u vs ∧ vs[k]? = some (.ref a) ∧ H a = some (.lst ws) ∧ t σ H fun v H1 => H1 a = some (.lst ws) ∧ ws.length < sizeLine ∧ ∀ ws', D.nx σ (upd H1 a (.lst ws'))
def tClr (K : PySem.W.Frag) (i k : Nat) : TS := fun D σ H => ∃ t vs a ws, σ[i]? = some (some (.ref t)) ∧ SqT K H t vs ∧ vs[k]? = some (.ref a) ∧ H a = some (.lst ws) ∧ ∀ ws', D.nx σ (upd H a (.lst ws'))
def tChg (K : PySem.W.Frag) (i k : Nat) (t : TE) : Option E → TS
  | some _ => tApp K i k t
  | none => tClr K i k
theorem s_chg {i k : Nat} {o : Option E} {nm : Str} {z : Expr} (g : Gs X T P n W) (hi : X.N[i]? = some nm) (hv : visB X.env.scope nm = true) (ho : okN nm = true) (h : chgOk T n X.N X.env.scope (chgE nm k z) o = true) : PS X (.Expr z pos) (tChg X.K i k (tK X P W (kd T (o.getD .non)) (o.getD .non)) o) := by
  cases q : chgE nm k z with
  | none => rw [q] at h; cases o <;> cases h
  | some oa =>
    rw [q] at h
    obtain ⟨t, apos, cpos, h1, h2, h3⟩ := chgE_ok q
    obtain ⟨np, j, p2, sp, rfl⟩ := subK_ok h1
    have hx : PE X (.Subscript (.Name nm np) (.Constant (.int (k : Nat)) j p2) sp) (tOp (rIxT X.K) (tVar i) (tC (.int (k : Nat)))) := pe_ix ix_tup (pe_var hi (vis_of hv) (okN_d ho) (okN_c ho)) pe_int (plain_ix rfl)
    rcases h3 with ⟨a, rfl, hp, rfl⟩ | ⟨rfl, rfl⟩
    · cases o with
      | none => cases h
      | some e =>
        have he := (snd_E (P := P) e X W a g.toGd h).pe
        refine PS.imp (ps_expr (pe_bm PySem.F.plainAttrs_list PySem.F.slot_list_append PySem.F.type_list_append mt_append hx (pa_cons he pa_nil (star_cons hp)) rfl (few_one hp) h2 (star_cons hp) rfl) rfl) fun D σ H ⟨t, vs, a, ws, e1, e2, e3, e4, q⟩ => ?_
        refine ⟨_, e1, t, vs, _, _, rfl, rfl, e2, atI_nat e3, .inl ⟨rfl, ws, SqL.of e4⟩, ?_⟩
        exact tK_mono q fun v H1 m => ⟨a, ws, v, rfl, rfl, m.1, m.2.1, m.2.2 _⟩
    · cases o with
      | some e => cases h
      | none =>
        refine PS.imp (ps_expr (pe_bm0 PySem.F.plainAttrs_list PySem.F.slot_list_clear PySem.F.type_list_clear mt_clear hx rfl h2) rfl) fun D σ H ⟨t, vs, a, ws, e1, e2, e3, e4, q⟩ => ?_
        exact ⟨_, e1, t, vs, _, _, rfl, rfl, e2, atI_nat e3, .inl ⟨rfl, ws, SqL.of e4⟩, a, ws, rfl, rfl, e4, q _⟩
/-- what a lent list is when it is changed -/
theorem lease_at {He Ge H G H1 G1 H2 G2 : Hp} {ρ : En} {σ : L2.St} {i k : Nat} {d : Dat} {v : V} (s : SR X.K He Ge ρ σ H G) (x1 : Ext H G H1 G1) (f1 : FreshC X.K H G1 v d) (x2 : Ext H1 G1 H2 G2) (hk : (leaseK d k && decide (i < ρ.length)) = true) :
    ∃ t vs a ws, (σ.set i (some v))[i]? = some (some (.ref t)) ∧ SqT X.K H2 t vs ∧ vs[k]? = some (.ref a) ∧ H2 a = some (.lst ws) ∧ ws.length < sizeLine ∧ H a = none ∧ G1 a = some (.lst ws) := by
  rw [Bool.and_eq_true] at hk
  obtain ⟨hk, hk2⟩ := hk
  cases d <;> simp only [leaseK] at hk <;> try (cases hk; done)
  rename_i ds
  split at hk
  · rename_i es hes
    obtain ⟨t, vs, rfl, tq, tl, tf⟩ := f1 ds rfl
    have hkl : k < vs.length := by rw [tl]; exact (List.getElem?_eq_some_iff.mp hes).1
    obtain ⟨a, ws, hu, na, ga, rws⟩ := tf k _ _ (List.getElem?_eq_getElem hkl) hes es rfl
    have s13 : Same G1 H2 := x2.stl.trans x2.sub
    refine ⟨t, vs, a, ws, ?_, sqT_keep s13 tq, ?_, s13 _ _ ga, lt_line (by rw [rws.length]; exact of_decide_eq_true hk), na, ga⟩
    · exact List.getElem?_set_self (by rw [← s.er.len]; exact of_decide_eq_true hk2)
    · rw [List.getElem?_eq_getElem hkl, hu]
  · cases hk
theorem s_lease {i k : Nat} {o : Option E} {e c1 r c2 : E} {rest : Ss} {st1 st2 st3 : Stmt} {xs : List Stmt} (g : Gs X T P n W) (h : okLease T n X.N X.env.scope fr i e c1 r c2 k o st1 st2 st3 = true) (hr : PSs X xs (tS X W fr (exSs P rest))) :
    PSs X (st1 :: st2 :: st3 :: xs) (tS X W fr (exSs P (.lease i e c1 r c2 k o rest))) := by
  unfold okLease at h
  cases q1 : asg1 st1 with
  | none => rw [q1] at h; cases h
  | some p1 =>
    cases q2 : if1 st2 with
    | none => rw [q1, q2] at h; cases h
    | some p2 =>
      cases q3 : if3 st3 with
      | none => rw [q1, q2, q3] at h; cases h
      | some p3 =>
        rw [q1, q2, q3] at h
        obtain ⟨x, y⟩ := p1
        obtain ⟨z1, b1⟩ := p2
        obtain ⟨z2, u⟩ := p3
        obtain ⟨zp, ap, rfl⟩ := asg1_ok q1
        obtain ⟨ip1, rfl⟩ := if1_ok q2
        simp only [Bool.and_eq_true, decide_eq_true_eq, Bool.not_eq_true', beq_iff_eq] at h
        obtain ⟨⟨⟨⟨⟨⟨⟨⟨⟨⟨⟨⟨h1, h2⟩, h3⟩, h4⟩, h5⟩, h6⟩, h7⟩, h8⟩, h9⟩, h10⟩, rfl⟩, h12⟩, h13⟩ := h
        cases qr : ret1 b1 with
        | none => rw [qr] at h13; cases h13
        | some w =>
          rw [qr] at h13
          obtain ⟨rp, rfl⟩ := ret1_ok qr
          simp only [Bool.and_eq_true, bne_iff_ne] at h13
          obtain ⟨h13, h14⟩ := h13
          have A := s_store (pos := ap) (py := zp) g h1 h2 h5 (snd_E (P := P) e X W y g.toGd h6).pe
          rw [h7] at A
          have C1 := (snd_E (P := P) c1 X W z1 g.toGd h9).pt h8
          have R := pss_one (ps_ret (pos := rp) (stillE h14 (snd_E (P := P) r X W w g.toGd h13).pe))
          have M : ∀ up, PS X (.Expr u up) (tChg X.K i k (tK X P W (kd T (o.getD .non)) (o.getD .non)) o) := fun up => s_chg (P := P) (W := W) (pos := up) g h1 h3 h4 h12
          -- what the change comes to
          have fin : ∀ {D D' : Ends} {He Ge H G H1 G1 H3 G3 : Hp} {ρ : En} {σ : L2.St} {d : Dat} {v : V}, SR X.K He Ge ρ σ H G → Ext H G H1 G1 → FreshC X.K H G1 v d → Ext H1 G1 H3 G3 → SR X.K He Ge (ρ.set i (.fz d)) (σ.set i (some v)) H3 G3 →
              EndS X W 0 He Ge D (if (leaseK d k && decide (i < ρ.length)) = true then Out.of (ev P (o.getD .non) (ρ.set i (.fz d))) fun _ => exSs P rest (ρ.set i .un) else .bad) →
              (∀ σ' H', tS X W 0 (exSs P rest) D σ' H' → D'.nx σ' H') → tChg X.K i k (tK X P W (kd T (o.getD .non)) (o.getD .non)) o D' (σ.set i (some v)) H3 := fun {D D' He Ge H G H1 G1 H3 G3 ρ σ d v} s x1 f1 x3 s3 q hD => by
            have back : ∀ (H4 : Hp), Same H H4 → SR X.K He Ge (ρ.set i .un) (σ.set i (some v)) H4 G := fun H4 sm =>
              (s.on (⟨sm, Same.refl G, s.er.sub.trans sm, fun c q => .inl q⟩ : Ext H G H4 G)).unset i
            split at q
            · rename_i hk
              obtain ⟨t, vs, a, ws, m1, m2, m3, m4, m5, m6, m7⟩ := lease_at s x1 f1 x3 hk
              cases o with
              | none =>
                have e0 : ev P ((none : Option E).getD .non) (ρ.set i (.fz d)) = .ok .none := by simp only [Option.getD, ev]
                rw [e0] at q
                simp only [out_ok] at q
                refine ⟨t, vs, a, ws, m1, m2, m3, m4, fun ws' => hD _ _ ⟨He, Ge, G, _, back _ fun b o e => ?_, q⟩⟩
                rw [upd_ne (ne_of_none e m6)]
                exact x3.all _ _ (x1.all _ _ e)
              | some e' =>
                refine ⟨t, vs, a, ws, m1, m2, m3, m4, ?_⟩
                refine bndS s3 q fun d' v' H4 G4 x4 r4 s4 q4 => ?_
                refine ⟨x4.all _ _ m4, m5, fun ws' => hD _ _ ⟨He, Ge, G, _, back _ fun b o e => ?_, q4⟩⟩
                rw [upd_ne (ne_of_none e m6)]
                exact x4.all _ _ (x3.all _ _ (x1.all _ _ e))
            · exact q.elim
          have back : ∀ {He Ge H G : Hp} {ρ : En} {σ : L2.St} {v : V} (s : SR X.K He Ge ρ σ H G) (H4 : Hp), Same H H4 → SR X.K He Ge (ρ.set i .un) (σ.set i (some v)) H4 G := fun s H4 sm =>
            (s.on (⟨sm, Same.refl _, s.er.sub.trans sm, fun c q => .inl q⟩ : Ext _ _ H4 _)).unset i
          rcases if3_ok q3 with ⟨z, up, ip2, rfl, rfl⟩ | ⟨up, rfl, rfl⟩
          · simp only [condOk, Bool.and_eq_true, Bool.not_eq_true'] at h10
            have C2 := (snd_E (P := P) c2 X W z g.toGd h10.2).pt h10.1
            refine PSs.imp (pss_cons A (pss_cons (ps_if (pos := ip1) C1 R pss_nil) (pss_cons (ps_if (pos := ip2) C2 (pss_one (M up)) pss_nil) hr))) fun D σ H ⟨He, Ge, G, ρ, s, q⟩ => ?_
            simp only [exSs] at q
            refine bndS (j := 3) s q fun d v H1 G1 x1 r1 s1 q1 => ?_
            obtain ⟨r1, f1⟩ := r1
            refine bndST (s1.set r1 i) q1 fun b H2 G2 x2 s2 q2 => ?_
            cases b with
            | true =>
              rw [if_pos rfl]
              simp only at q2
              refine bndS s2 q2 fun d' v' H3 G3 x3 r3 s3 q3 => ?_
              exact q3 v' H3 G3 s3.ext r3
            | false =>
              rw [if_neg Bool.false_ne_true]
              simp only at q2
              refine bndST s2 q2 fun b H3 G3 x3 s3 q3 => ?_
              cases b with
              | false =>
                rw [if_neg Bool.false_ne_true]
                exact ⟨He, Ge, G, _, back s H3 (x1.all.trans (x2.all.trans x3.all)), q3⟩
              | true =>
                rw [if_pos rfl]
                simp only at q3
                exact fin s x1 f1 (x2.trans x3) s3 q3 fun σ' H' z => z
          · have hc : c2 = .bl true := by
              have h10' : tyes c2 = true := h10
              cases c2 <;> simp [tyes] at h10'
              subst h10'
              rfl
            subst hc
            refine PSs.imp (pss_cons A (pss_cons (ps_if (pos := ip1) C1 R pss_nil) (pss_cons (M up) hr))) fun D σ H ⟨He, Ge, G, ρ, s, q⟩ => ?_
            simp only [exSs] at q
            refine bndS (j := 3) s q fun d v H1 G1 x1 r1 s1 q1 => ?_
            obtain ⟨r1, f1⟩ := r1
            refine bndST (s1.set r1 i) q1 fun b H2 G2 x2 s2 q2 => ?_
            cases b with
            | true =>
              rw [if_pos rfl]
              simp only at q2
              refine bndS s2 q2 fun d' v' H3 G3 x3 r3 s3 q3 => ?_
              exact q3 v' H3 G3 s3.ext r3
            | false =>
              rw [if_neg Bool.false_ne_true]
              simp only at q2
              have et : (ev P (.bl true) (ρ.set i (.fz d)) >>= fun t => truD t) = .ok true := by simp only [ev]; rfl
              rw [et] at q2
              simp only [out_ok] at q2
              exact fin s x1 f1 x2 s2 q2 fun σ' H' z => z
/-- what the terms do not tell -/
theorem s_nope {st : Stmt} : PS X st (tS X W fr (exS P .nope)) := ⟨fun pins s σ H D I h => by
  obtain ⟨He, Ge, G, ρ, _, q⟩ := h
  simp only [exS] at q
  exact q.elim⟩
theorem pss_no {X : Cx} {st : List Stmt} : PSs X st (fun _ _ _ => False) := ⟨fun pins s σ H D I h => h.elim⟩
theorem s_tryB {c : Str} {y : Expr} {p np hp tp : Pos} {b0 : Stmt} {s : List Stmt} (g : Gs X T P n W) (hcl : T.cl = false) (hg : glB X.env.scope c = true) (ho : okN c = true) (hm : ∃ C, X.mg c = some (.ref C)) (he : okE T n X.N X.env.scope e y = true) (hk : kd T e ≠ 1) :
    PS X (.Try [.Return (some y) p] [.ExceptHandler (some (.Name c np)) none (b0 :: s) hp] [] [] tp) (tS X W 0 (exS P (.tryB e c))) := by
  obtain ⟨C, hC⟩ := hm
  have hg' : X.env.scope.names.lookup c = some .globalImplicit := of_decide_eq_true hg
  refine PS.imp (ps_try_only (tb := fun W' D σ H => tK X P W' 0 e σ H D.rt) (ts := fun _ _ _ _ _ _ => False) g.stk g.frm ⟨hg', okN_d ho, .inl hC⟩ (tk_low g hcl) (fun W' pn xe tk ps => ?_) fun a oe cls d pn _ _ => pss_no) fun D σ H ⟨He, Ge, G, ρ, s, q⟩ => ?_
  · exact PSs.imp (pss_one (ps_ret (stillE hk (snd_E e (X.tr pn xe) W' y (g.tr0 hcl tk ps).toGd he).pe))) fun D σ H q => q
  · simp only [exS] at q
    refine ⟨He, G, ρ, s.er, ?_⟩
    cases qe : ev P e ρ with
    | ok d =>
      rw [qe] at q
      exact fun x H1 G1 x1 r1 => q x H1 G1 (s.ext.trans x1) r1
    | exc c' z => rw [qe] at q; exact q.elim
    | bad => rw [qe] at q; exact q.elim
/-- statements without statements in them -/
def leaf : S → Bool
  | .ifs _ _ _ => false
  | .for_ _ _ _ _ => false
  | .whil _ _ _ _ => false
  | _ => true
theorem snd_S0 : ∀ (s : S) (st : Stmt), leaf s = true → Gs X T P n W → okS T n X.N X.env.scope fr s st = true → PS X st (tS X W fr (exS P s))
  | .set i e, st, _, g, h => by
    cases st with
    | Assign ts y pos =>
      cases ts with
      | nil => simp [okS] at h
      | cons t r =>
        cases r with
        | cons _ _ => cases t <;> exact absurd (show false = true from h) (by decide)
        | nil =>
          cases t with
          | Name nm py =>
            simp only [okS, Bool.and_eq_true, decide_eq_true_eq, bne_iff_ne] at h
            obtain ⟨⟨⟨⟨h1, h2⟩, h3⟩, h4⟩, h5⟩ := h
            exact PS.imp (s_asg g h1 h2 h3 h4) fun D σ H q => tAsg_mono (fun _ _ _ => tK_still h5) D σ H (c_set D σ H q)
          | _ => simp [okS] at h
    | _ => simp [okS] at h
  | .setO i e, st, _, g, h => by
    cases st with
    | Assign ts y pos =>
      cases ts with
      | nil => simp [okS] at h
      | cons t r =>
        cases r with
        | cons _ _ => cases t <;> exact absurd (show false = true from h) (by decide)
        | nil =>
          cases t with
          | Name nm py =>
            simp only [okS, Bool.and_eq_true, decide_eq_true_eq, beq_iff_eq] at h
            obtain ⟨⟨⟨⟨h1, h2⟩, h3⟩, h4⟩, h5⟩ := h
            have z := s_asg (P := P) (W := W) (pos := pos) g h1 h2 h3 h4
            rw [h5] at z
            exact PS.imp z c_setO
          | _ => simp [okS] at h
    | _ => simp [okS] at h
  | .tup is e, st, _, g, h => by
    cases st with
    | Assign ts y pos =>
      cases ts with
      | nil => simp [okS] at h
      | cons t r =>
        cases r with
        | cons _ _ => exact absurd (show false = true from h) (by decide)
        | nil =>
          simp only [okS, Bool.and_eq_true, bne_iff_ne, Bool.not_eq_true'] at h
          obtain ⟨⟨⟨⟨h1, h2⟩, h3⟩, h4⟩, h5⟩ := h
          exact s_tupA g h1 h2 h3 h5 (snd_E e X W y g.toGd h4).pe
    | _ => simp [okS] at h
  | .app i e, st, _, g, h => by
    cases st with
    | Expr y pos =>
      cases y with
      | Call f xs kws cpos =>
        cases f with
        | Attribute o f apos =>
          cases o with
          | Name nm np =>
            cases xs with
            | nil => simp [okS] at h
            | cons y r =>
              cases r with
              | cons _ _ => simp [okS] at h
              | nil =>
                cases kws with
                | cons _ _ => simp [okS] at h
                | nil =>
                  simp only [okS, Bool.and_eq_true, decide_eq_true_eq, bne_iff_ne] at h
                  obtain ⟨⟨⟨⟨⟨⟨⟨h1, h2⟩, h3⟩, rfl⟩, h5⟩, h6⟩, h7⟩, h8⟩ := h
                  exact s_app g h1 h2 h3 h5 h6 h8 (snd_E e X W y g.toGd h7).pe
          | _ => simp [okS] at h
        | _ => simp [okS] at h
      | _ => simp [okS] at h
    | _ => simp [okS] at h
  | .rev i, st, _, g, h => by
    cases st with
    | Expr y pos =>
      cases y with
      | Call f xs kws cpos =>
        cases f with
        | Attribute o f apos =>
          cases o with
          | Name nm np =>
            cases xs with
            | cons _ _ => simp [okS] at h
            | nil =>
              cases kws with
              | cons _ _ => simp [okS] at h
              | nil =>
                simp only [okS, Bool.and_eq_true, decide_eq_true_eq] at h
                obtain ⟨⟨⟨⟨h1, h2⟩, h3⟩, rfl⟩, h5⟩ := h
                exact s_rev g h1 h2 h3 h5
          | _ => simp [okS] at h
        | _ => simp [okS] at h
      | _ => simp [okS] at h
    | _ => simp [okS] at h
  | .ext i e, st, _, g, h => by
    cases st with
    | Expr y pos =>
      cases y with
      | Call f xs kws cpos =>
        cases f with
        | Attribute o f apos =>
          cases o with
          | Name nm np =>
            cases xs with
            | nil => simp [okS] at h
            | cons y r =>
              cases r with
              | cons _ _ => simp [okS] at h
              | nil =>
                cases kws with
                | cons _ _ => simp [okS] at h
                | nil =>
                  simp only [okS, Bool.and_eq_true, decide_eq_true_eq] at h
                  obtain ⟨⟨⟨⟨⟨⟨⟨h1, h2⟩, h3⟩, rfl⟩, h5⟩, h6⟩, h7⟩, h8⟩ := h
                  have z := (snd_E (P := P) e X W y g.toGd h7).pe
                  rw [eq_of_beq h8] at z
                  exact s_ext g h1 h2 h3 h5 h6 z
          | _ => simp [okS] at h
        | _ => simp [okS] at h
      | _ => simp [okS] at h
    | _ => simp [okS] at h
  | .ret e, st, _, g, h => by
    cases st with
    | Return y pos =>
      cases y with
      | none => simp [okS] at h
      | some y =>
        simp only [okS, Bool.and_eq_true, beq_iff_eq, bne_iff_ne] at h
        obtain ⟨⟨hf, h2⟩, h3⟩ := h
        refine PS.imp (ps_ret (stillE h3 (snd_E e X W y g.toGd h2).pe)) fun D σ H ⟨He, Ge, G, ρ, s, h⟩ => ?_
        simp only [exS] at h
        refine bndS s h fun d v H1 G1 x1 r1 s1 q1 => ?_
        refine q1 v H1 G1 s1.ext ?_
        rw [hf]
        exact r1
    | _ => simp [okS] at h
  | .retO e, st, _, g, h => by
    cases st with
    | Return y pos =>
      cases y with
      | none => simp [okS] at h
      | some y =>
        simp only [okS, Bool.and_eq_true, beq_iff_eq] at h
        obtain ⟨⟨hf, h2⟩, h3⟩ := h
        have z := (snd_E (P := P) e X W y g.toGd h2).pe
        rw [h3] at z
        refine PS.imp (ps_ret z) fun D σ H ⟨He, Ge, G, ρ, s, h⟩ => ?_
        simp only [exS] at h
        refine bndS s h fun d v H1 G1 x1 r1 s1 q1 => ?_
        refine q1 v H1 G1 s1.ext ?_
        rw [hf]
        exact RK.on (k := 2) s.ext.all r1
    | _ => simp [okS] at h
  | .retV i, st, _, g, h => by
    cases st with
    | Return y pos =>
      cases y with
      | none => simp [okS] at h
      | some y =>
        cases y with
        | Name nm np =>
          simp only [okS, Bool.and_eq_true, decide_eq_true_eq, beq_iff_eq] at h
          obtain ⟨⟨⟨hf, h1⟩, h2⟩, h3⟩ := h
          refine PS.imp (ps_ret (pe_var h1 (vis_of h2) (okN_d h3) (okN_c h3))) fun D σ H ⟨He, Ge, G, ρ, s, h⟩ => ?_
          simp only [exS] at h
          cases hd : getS ρ i with
          | ow ds =>
            rw [hd] at h
            have e0 := getS_some hd nofun
            obtain ⟨o, k1, a, vs, rfl, k2, ga, rr⟩ := s.er.at_ i _ e0
            refine ⟨_, k1, h _ H G s.ext ?_⟩
            rw [hf]
            exact ⟨a, vs, ds, rfl, rfl, s.own i ds a e0 k1, ga, k2, rr⟩
          | un => rw [hd] at h; exact h.elim
          | fz _ => rw [hd] at h; exact h.elim
          | ln _ => rw [hd] at h; exact h.elim
          | ex _ _ _ _ => rw [hd] at h; exact h.elim
        | _ => simp [okS] at h
    | _ => simp [okS] at h
  | .retF fl es, st, _, g, h => by
    cases st with
    | Return y pos =>
      cases y with
      | none => simp [okS] at h
      | some y =>
        cases y with
        | Tuple xs k p =>
          simp only [okS, Bool.and_eq_true, beq_iff_eq, decide_eq_true_eq] at h
          obtain ⟨⟨rfl, rfl⟩, h2⟩ := h
          exact s_retF g h2
        | _ => simp [okS] at h
    | _ => simp [okS] at h
  | .retL es i, st, _, g, h => by
    cases st with
    | Return y pos =>
      cases y with
      | none => simp [okS] at h
      | some y =>
        cases y with
        | Tuple xs k p =>
          simp only [okS, Bool.and_eq_true, beq_iff_eq] at h
          obtain ⟨rfl, h⟩ := h
          cases hn : X.N[i]? with
          | none => rw [hn] at h; cases h
          | some x =>
            rw [hn] at h
            simp only [Bool.and_eq_true] at h
            exact s_retL g hn h.1.1 h.1.2 h.2
        | _ => simp [okS] at h
    | _ => simp [okS] at h
  | .retC e, st, _, g, h => by
    cases st with
    | Return y pos =>
      cases y with
      | none => simp [okS] at h
      | some y =>
        simp only [okS, Bool.and_eq_true, beq_iff_eq] at h
        obtain ⟨⟨rfl, h2⟩, h3⟩ := h
        have z := (snd_E (P := P) e X W y g.toGd h2).pe
        rw [h3] at z
        refine PS.imp (ps_ret z) fun D σ H ⟨He, Ge, G, ρ, s, h⟩ => ?_
        simp only [exS] at h
        refine bndS s h fun d v H1 G1 x1 r1 s1 q1 => ?_
        exact q1 v H1 G1 s1.ext (RK.on (k := 3) s.ext.all r1)
    | _ => simp [okS] at h
  | .retN, st, _, g, h => by
    cases st with
    | Return y pos =>
      cases y with
      | none =>
        simp only [okS, beq_iff_eq] at h
        refine PS.imp ps_retN fun D σ H ⟨He, Ge, G, ρ, s, q⟩ => ?_
        simp only [exS] at q
        refine q .non H G s.ext ?_
        rw [h]
        exact Rep.non
      | some y => cases y <;> simp [okS] at h
    | _ => simp [okS] at h
  | .expr e, st, _, g, h => by
    cases st with
    | Expr y pos =>
      simp only [okS, Bool.and_eq_true, Bool.not_eq_true'] at h
      refine PS.imp (ps_expr (snd_E e X W y g.toGd h.2).pe (swaps_plain h.1)) fun D σ H ⟨He, Ge, G, ρ, s, h⟩ => ?_
      simp only [exS] at h
      refine bndS s h fun d v H1 G1 x1 r1 s1 q1 => ?_
      exact q1 σ H1 G1 s1
    | _ => simp [okS] at h
  | .pass, st, _, g, h => by
    have fin : ∀ D σ H, tS X W fr (exS P .pass) D σ H → tNext D σ H := fun D σ H ⟨He, Ge, G, ρ, s, q⟩ => by
      simp only [exS] at q
      exact q σ H G s
    cases st with
    | Pass pos => exact PS.imp ps_pass fin
    | Expr y pos =>
      cases y with
      | Constant c k p =>
        cases c with
        | str z => exact PS.imp ps_doc fin
        | _ => simp [okS] at h
      | _ => simp [okS] at h
    | _ => simp [okS] at h
  | .cont, st, _, g, h => by
    cases st with
    | Continue pos =>
      exact PS.imp ps_continue fun D σ H ⟨He, Ge, G, ρ, s, q⟩ => by
        simp only [exS] at q
        exact q σ H G s
    | _ => simp [okS] at h
  | .nope, st, _, g, h => s_nope
  | .tryB e c, st, _, g, h => by
    simp only [okS] at h
    cases qt : tryB1 c st with
    | none => rw [qt] at h; cases h
    | some y =>
      rw [qt] at h
      obtain ⟨p, np, b0, s, hp, tp, rfl⟩ := tryB1_ok qt
      simp only [Bool.and_eq_true, bne_iff_ne, beq_iff_eq, Bool.not_eq_true'] at h
      obtain ⟨⟨⟨⟨⟨⟨rfl, h1⟩, h2⟩, h3⟩, hcl⟩, h4⟩, h5⟩ := h
      have hC : ∃ C, X.mg c = some (.ref C) := by
        obtain ⟨C, h, _⟩ := g.exs _ (List.contains_iff_mem.mp h3)
        exact ⟨C, h⟩
      exact s_tryB g hcl h1 h2 hC h4 h5
  | .raisX c e, st, _, g, h => by
    simp only [okS] at h
    cases qr : rais2 st with
    | none => rw [qr] at h; cases h
    | some p =>
      obtain ⟨c', y⟩ := p
      rw [qr] at h
      obtain ⟨np, cp, pos, rfl⟩ := rais2_ok qr
      simp only [Bool.and_eq_true, decide_eq_true_eq, Bool.not_eq_true', bne_iff_ne] at h
      obtain ⟨⟨⟨⟨⟨⟨⟨⟨rfl, h1⟩, h2⟩, h3⟩, h4⟩, h5⟩, h6⟩, h7⟩, h8⟩ := h
      exact s_raisX g h1 h2 h3 h4 h5 h6 h8 (snd_E e X W y g.toGd h7).pe
  | .tryX e c d i, st, _, g, h => by simp [okS] at h
  | .tryR e c i j ns, st, _, g, h => s_tryR g h
  | .rais c, st, _, g, h => by
    simp only [okS, Bool.and_eq_true] at h
    obtain ⟨⟨⟨h1, h2⟩, h3⟩, h4⟩ := h
    obtain ⟨np, m, k, p2, cp, pos, rfl⟩ := rais1_ok h1
    exact s_rais g h2 h3 h4
  | .tryI e c i j n1 n2, st, _, g, h => by
    simp only [okS] at h
    cases qt : tryA c st with
    | none => rw [qt] at h; cases h
    | some p =>
      obtain ⟨b, x, s⟩ := p
      rw [qt] at h
      obtain ⟨np, hp, tp, rfl⟩ := tryA_ok qt
      simp only at h
      cases qb : expr1 b with
      | none => rw [qb] at h; cases h
      | some y =>
        cases qs : two1 s with
        | none => rw [qb, qs] at h; cases h
        | some v =>
          obtain ⟨z, xs, ys⟩ := v
          rw [qb, qs] at h
          obtain ⟨yp, rfl⟩ := expr1_ok qb
          obtain ⟨zp, k1, p1, a1, zp', zq, k2, p2, p3, a2, rfl⟩ := two1_ok qs
          simp only [Bool.and_eq_true, decide_eq_true_eq, Bool.not_eq_true'] at h
          obtain ⟨⟨⟨⟨⟨⟨⟨⟨⟨⟨⟨⟨⟨⟨⟨⟨h1, h2⟩, h3⟩, hcl⟩, h4⟩, h5⟩, h6⟩, h7⟩, h8⟩, h9⟩, h10⟩, h11⟩, h12⟩, h13⟩, h14⟩, h15⟩, h16⟩ := h
          have hC : ∃ C, X.mg c = some (.ref C) := by
            obtain ⟨C, h, _⟩ := g.exs _ (List.contains_iff_mem.mp h3)
            exact ⟨C, h⟩
          exact s_tryI g hcl h1 h2 hC h4 h5 h6 h7 h8 h9 h10 h11 h12 h13 h14 h15 h16
  | .tryE i e c j hd, st, _, g, h => by
    simp only [okS] at h
    cases qt : try1 c st with
    | none => rw [qt] at h; cases h
    | some p =>
      obtain ⟨b, z, w⟩ := p
      rw [qt] at h
      obtain ⟨np, zp, ap, hp, tp, rfl⟩ := try1_ok qt
      simp only [Bool.and_eq_true, decide_eq_true_eq, Bool.not_eq_true'] at h
      obtain ⟨⟨⟨⟨⟨⟨⟨h2, h3⟩, h6⟩, h7⟩, h8⟩, h9⟩, hcl⟩, hb⟩ := h
      have hC : ∃ C, X.mg c = some (.ref C) := by
        obtain ⟨C, h, _⟩ := g.exs _ (List.contains_iff_mem.mp h9)
        exact ⟨C, h⟩
      cases i with
      | none =>
        simp only at hb
        cases qb : expr1 b with
        | none => rw [qb] at hb; cases hb
        | some y =>
          rw [qb] at hb
          obtain ⟨p, rfl⟩ := expr1_ok qb
          simp only [Bool.and_eq_true, Bool.not_eq_true'] at hb
          refine s_tryE (k := kd T e) (Qk := fun v σ H1 D => D.nx σ H1) g hcl h2 h3 h6 h7 h8 hC (fun W' pn xe g' => ?_) fun D σ He Ge H1 G1 ρ H x d r s q => q σ H1 G1 s
          exact PSs.imp (pss_one (ps_expr (snd_E e (X.tr pn xe) W' y g'.toGd hb.2).pe (swaps_plain hb.1))) fun D σ H q => q
      | some i =>
        simp only at hb
        cases qb : asgL b with
        | none => rw [qb] at hb; cases hb
        | some uy =>
          obtain ⟨u, y⟩ := uy
          rw [qb] at hb
          obtain ⟨up, p, rfl⟩ := asgL_ok qb
          simp only [Bool.and_eq_true, Bool.not_eq_true', bne_iff_ne, decide_eq_true_eq] at hb
          obtain ⟨⟨⟨⟨h4, h5⟩, h51⟩, h52⟩, h53⟩ := hb
          refine s_tryE (k := 0) (Qk := fun v σ H1 D => D.nx (σ.set i (some v)) H1) g hcl h2 h3 h6 h7 h8 hC (fun W' pn xe g' => ?_) fun D σ He Ge H1 G1 ρ H x d r s q => q _ H1 G1 (s.set r i)
          exact PSs.imp (pss_one (ps_set g'.nd h52 (loc_sto h53) (stillE h51 (snd_E e (X.tr pn xe) W' y g'.toGd h5).pe) (swaps_plain h4) (.inl (g'.fnT u)))) fun D σ H q => q
  | .ifs _ _ _, _, hl, _, _ => by cases hl
  | .for_ _ _ _ _, _, hl, _, _ => by cases hl
  | .whil _ _ _ _, _, hl, _, _ => by cases hl
mutual
theorem snd_S : ∀ (s : S) (st : Stmt), Gs X T P n W → okS T n X.N X.env.scope fr s st = true → PS X st (tS X W fr (exS P s))
  | .ifs c a b, st, g, h => by
    cases st with
    | If x p q pos =>
      simp only [okS, Bool.and_eq_true, Bool.not_eq_true'] at h
      obtain ⟨⟨⟨h1, h2⟩, h3⟩, h4⟩ := h
      refine PS.imp (ps_if ((snd_E c X W x g.toGd h2).pt h1) (snd_Ss a p g h3) (snd_Ss b q g h4)) fun D σ H ⟨He, Ge, G, ρ, s, h⟩ => ?_
      simp only [exS] at h
      refine bndST s h fun r H1 G1 x1 s1 q1 => ?_
      cases r with
      | true => rw [if_pos rfl]; exact ⟨He, Ge, G1, ρ, s1, q1⟩
      | false => rw [if_neg Bool.false_ne_true]; exact ⟨He, Ge, G1, ρ, s1, q1⟩
    | _ => simp [okS] at h
  | .for_ tmp tg it body, st, g, h => by
    cases st with
    | For t x b els pos =>
      cases els with
      | nil =>
        simp only [okS, Bool.and_eq_true] at h
        obtain ⟨⟨⟨⟨h0, h1⟩, h2⟩, h3⟩, h4⟩ := h
        rw [Bool.not_eq_true'] at h0
        exact s_for g h0 h1 h2 (snd_I it X W t x g.toGd h3) (snd_Ss body b g h4)
      | cons _ _ => simp [okS] at h
    | _ => simp [okS] at h
  | .whil fuel tmp c body, st, g, h => by
    cases st with
    | While x b els pos =>
      cases els with
      | nil =>
        simp only [okS, Bool.and_eq_true, Bool.not_eq_true'] at h
        obtain ⟨⟨h1, h2⟩, h3⟩ := h
        exact s_whil g ((snd_E c X W x g.toGd h2).pt h1) (snd_Ss body b g h3)
      | cons _ _ => simp [okS] at h
    | _ => simp [okS] at h
  | .set i e, st, g, h => snd_S0 (.set i e) st rfl g h
  | .setO i e, st, g, h => snd_S0 (.setO i e) st rfl g h
  | .tup i e, st, g, h => snd_S0 (.tup i e) st rfl g h
  | .app i e, st, g, h => snd_S0 (.app i e) st rfl g h
  | .rev i, st, g, h => snd_S0 (.rev i) st rfl g h
  | .ext i e, st, g, h => snd_S0 (.ext i e) st rfl g h
  | .ret e, st, g, h => snd_S0 (.ret e) st rfl g h
  | .retO e, st, g, h => snd_S0 (.retO e) st rfl g h
  | .retV i, st, g, h => snd_S0 (.retV i) st rfl g h
  | .retN, st, g, h => snd_S0 (.retN) st rfl g h
  | .expr e, st, g, h => snd_S0 (.expr e) st rfl g h
  | .pass, st, g, h => snd_S0 (.pass) st rfl g h
  | .cont, st, g, h => snd_S0 (.cont) st rfl g h
  | .tryI e c i j n1 n2, st, g, h => snd_S0 (.tryI e c i j n1 n2) st rfl g h
  | .retF fl es, st, g, h => snd_S0 (.retF fl es) st rfl g h
  | .retL es i, st, g, h => snd_S0 (.retL es i) st rfl g h
  | .retC e, st, g, h => snd_S0 (.retC e) st rfl g h
  | .rais c, st, g, h => snd_S0 (.rais c) st rfl g h
  | .nope, st, g, h => snd_S0 .nope st rfl g h
  | .raisX c e, st, g, h => snd_S0 (.raisX c e) st rfl g h
  | .tryX e c d i, st, g, h => snd_S0 (.tryX e c d i) st rfl g h
  | .tryR e c i j ns, st, g, h => snd_S0 (.tryR e c i j ns) st rfl g h
  | .tryB e c, st, g, h => snd_S0 (.tryB e c) st rfl g h
  | .tryE i e c j hd, st, g, h => snd_S0 (.tryE i e c j hd) st rfl g h
theorem snd_Ss : ∀ (s : Ss) (st : List Stmt), Gs X T P n W → okSs T n X.N X.env.scope fr s st = true → PSs X st (tS X W fr (exSs P s))
  | .nil, st, g, h => by
    cases st with
    | nil =>
      exact PSs.imp pss_nil fun D σ H ⟨He, Ge, G, ρ, s, q⟩ => by
        simp only [exSs] at q
        exact q σ H G s
    | cons _ _ => simp [okSs] at h
  | .cons s r, st, g, h => by
    cases st with
    | nil => simp [okSs] at h
    | cons x xs =>
      simp only [okSs, Bool.and_eq_true] at h
      refine PSs.imp (pss_cons (snd_S s x g h.1) (snd_Ss r xs g h.2)) fun D σ H ⟨He, Ge, G, ρ, z, q⟩ => ?_
      simp only [exSs] at q
      refine ⟨He, Ge, G, ρ, z, ?_⟩
      cases qo : exS P s ρ with
      | nx ρ5 => rw [qo] at q; exact fun σ6 H6 G6 s6 => ⟨He, Ge, G6, ρ5, s6, q⟩
      | ct ρ5 => rw [qo] at q; exact q
      | ret d => rw [qo] at q; exact q
      | exc c z => rw [qo] at q; exact q
      | bad => rw [qo] at q; exact q
  | .frz i r, st, g, h => by
    simp only [okSs] at h
    refine PSs.imp (snd_Ss r st g h) fun D σ H ⟨He, Ge, G, ρ, z, q⟩ => ?_
    simp only [exSs] at q
    cases hd : getS ρ i with
    | ow ds =>
      rw [hd] at q
      obtain ⟨G1, _, _, s1, _⟩ := z.frz (getS_some hd nofun)
      exact ⟨He, Ge, G1, _, s1, q⟩
    | un => rw [hd] at q; exact q.elim
    | fz _ => rw [hd] at q; exact q.elim
    | ln _ => rw [hd] at q; exact q.elim
    | ex _ _ _ _ => rw [hd] at q; exact q.elim
  | .lease i e c1 r c2 k o rest, st, g, h => by
    cases st with
    | nil => simp [okSs] at h
    | cons x1 st =>
      cases st with
      | nil => simp [okSs] at h
      | cons x2 st =>
        cases st with
        | nil => simp [okSs] at h
        | cons x3 xs =>
          simp only [okSs, Bool.and_eq_true] at h
          exact s_lease g h.1 (snd_Ss rest xs g h.2)
end
end
end NW
end

section
set_option maxHeartbeats 8000000
/-! A def as a whole keeps the promise that its terms give. -/
namespace NW
open PySem PySem.Spec PyProof.Rows L2
theorem ins_len : ∀ (ws : List Bool) (ds : List Dat), (ins ws ds).length = ds.length
  | [], [] => rfl
  | true :: _, [] => rfl
  | false :: _, [] => rfl
  | [], d :: ds => by simp [ins, ins_len [] ds]
  | false :: ws, d :: ds => by simp [ins, ins_len ws ds]
  | true :: ws, d :: ds => by cases d <;> simp [ins, ins_len ws ds]
theorem ins_own : ∀ (ws : List Bool) (ds : List Dat) (i : Nat) (es : List Dat), (ins ws ds)[i]? ≠ some (.ow es)
  | [], [], i, es => by simp [ins]
  | true :: _, [], i, es => by simp [ins]
  | false :: _, [], i, es => by simp [ins]
  | [], d :: ds, i, es => by
    cases i with
    | zero => simp [ins]
    | succ i => simpa [ins] using ins_own [] ds i es
  | false :: ws, d :: ds, i, es => by
    cases i with
    | zero => simp [ins]
    | succ i => simpa [ins] using ins_own ws ds i es
  | true :: ws, d :: ds, i, es => by
    cases d <;> cases i with
    | zero => simp [ins]
    | succ i => simpa [ins] using ins_own ws ds i es
theorem RW.still_ {K : PySem.W.Frag} {H G : Hp} {v : V} {d : Dat} (r : RW K H G v d) (h : ∀ ds, d ≠ .list ds) : Rep K G v d := by
  cases r with
  | st r => exact r
  | wk _ _ => exact absurd rfl (h _)
theorem RW.list_ {K : PySem.W.Frag} {H G : Hp} (g : Same G H) {v : V} {ds : List Dat} (r : RW K H G v (.list ds)) : ∃ a vs, v = .ref a ∧ SqL K H a vs ∧ Reps K G vs ds := by
  cases r with
  | st r =>
    cases r with
    | lst q rr => exact ⟨_, _, rfl, sqL_keep g q, rr⟩
  | wk q rr => exact ⟨_, _, rfl, q, rr⟩
theorem ins_at {K : PySem.W.Frag} {H G : Hp} (g : Same G H) : ∀ (ws : List Bool) (vs : List V) (ds : List Dat), RAs K H G ws vs ds → ∀ (i : Nat) (s : Sl), (ins ws ds)[i]? = some s → ∃ v, vs[i]? = some v ∧ SlR K H H G s (some v)
  | ws, [], ds, r, i, s, e => by
    cases r with
    | nil => cases ws with
      | nil => simp [ins] at e
      | cons b ws => cases b <;> simp [ins] at e
  | ws, v :: vs, _, .cons (d := d) (ds := ds) r t, i, s, e => by
    match ws, r, t, e with
    | [], r, t, e =>
      cases i with
      | zero => simp [ins] at e; subst e; exact ⟨v, rfl, v, rfl, r⟩
      | succ i => simp [ins] at e; exact ins_at g [] vs ds t i s e
    | false :: ws, r, t, e =>
      cases i with
      | zero => simp [ins] at e; subst e; exact ⟨v, rfl, v, rfl, r⟩
      | succ i => simp [ins] at e; exact ins_at g ws vs ds t i s e
    | true :: ws, r, t, e =>
      have r' : RW K H G v d := r
      cases d with
      | list xs =>
        cases i with
        | zero =>
          simp [ins] at e; subst e
          obtain ⟨a, us, rfl, q, rr⟩ := r'.list_ g
          exact ⟨_, rfl, a, us, rfl, q, rr⟩
        | succ i => simp [ins] at e; exact ins_at g ws vs ds t i s e
      | _ =>
        cases i with
        | zero => simp [ins] at e; subst e; exact ⟨v, rfl, v, rfl, r'.still_ nofun⟩
        | succ i => simp [ins] at e; exact ins_at g ws vs ds t i s e
theorem RAs.len {K : PySem.W.Frag} {H G : Hp} {ws : List Bool} {vs : List V} {ds : List Dat} (r : RAs K H G ws vs ds) : vs.length = ds.length := by
  induction r with
  | nil => rfl
  | cons _ _ ih => simp [ih]
/-- the state at the entry -/
theorem SR.start {K : PySem.W.Frag} {H G : Hp} {ws : List Bool} {vs : List V} {ds : List Dat} {N : List Str} (g : Same G H) (r : RAs K H G ws vs ds) (hn : vs.length ≤ N.length) :
    SR K H G (ins ws ds ++ List.replicate (N.length - ds.length) .un) (L2.start N vs) H G := by
  have hl := r.len
  have il := ins_len ws ds
  refine ⟨Ext.refl g, ⟨Same.refl H, g, by simp [L2.start, il, hl], fun i s e => ?_⟩, fun i es a e1 e2 => ?_, fun i j es fs a hij e1 e2 e3 e4 => ?_⟩
  · by_cases hi : i < ds.length
    · rw [List.getElem?_append_left (by rw [il]; exact hi)] at e
      obtain ⟨v, h1, h2⟩ := ins_at g ws vs ds r i s e
      refine ⟨some v, ?_, h2⟩
      unfold L2.start
      rw [List.getElem?_append_left (by rw [List.length_map, hl]; exact hi), List.getElem?_map, h1]
      rfl
    · rw [List.getElem?_append_right (by rw [il]; omega), List.getElem?_replicate] at e
      split at e
      · cases e
        rename_i hx
        refine ⟨none, ?_, trivial⟩
        unfold L2.start
        rw [List.getElem?_append_right (by rw [List.length_map, hl]; omega), List.getElem?_replicate, if_pos]
        rw [List.length_map, hl]
        rw [il] at hx
        exact hx
      · cases e
  all_goals
    exfalso
    by_cases hi : i < ds.length
    · rw [List.getElem?_append_left (by rw [il]; exact hi)] at e1
      exact ins_own ws ds i es e1
    · rw [List.getElem?_append_right (by rw [il]; omega), List.getElem?_replicate] at e1
      split at e1 <;> cases e1
theorem FnOk.up {P : Program} {w : World} {K : PySem.W.Frag} {mg : Str → Option Value} {base : Heap} {C : CXT} {j k : Nat} {f : Addr} {fd : FuncData} {ps : List Str} {sp : Sp} (h : FnOk P w K mg base C j f fd ps sp) (hj : j ≤ k) : FnOk P w K mg base C k f fd ps sp :=
  ⟨h.len, fun A outer s H args us vs Q E r => h.run A outer s H args us vs Q E ⟨r.hd, by have := r.dp; omega, by have := r.un; omega⟩⟩
/-- what the outside knows -/
structure Gw (P : Program) (w : World) (K : PySem.W.Frag) (mg : Str → Option Value) (base : Heap) (T : Tx) (Pr : Pg) (n : Nat) : Prop where
  fns : ∀ k sg, k < n → T.fns[k]? = some sg → FnX P w K mg base n sg (Pr.F k)
  cons : ∀ k x, T.cons[k]? = some x → ∃ u v, mg x = some u ∧ RelV v u ∧ ∀ G, Rep K G v (Pr.C k)
  blt : ∀ b ∈ bltN, mg b = none
  exs : ∀ c ∈ T.exs, ∃ C, mg c = some (.ref C) ∧ ExK K C
  exm : ∀ c c' b, Pr.X c c' = some b → ∃ C C', mg c = some (.ref C) ∧ mg c' = some (.ref C') ∧ PySem.W.exmOne K (.ref C) (.ref C') = some b
  iss : ∀ c c' b, Pr.I c c' = some b → IssK K mg c c' b
  exr : ∀ c ∈ T.exr, ∃ C, mg c = some (.ref C) ∧ RwK P w K mg base C
theorem fn_ok {P : Program} {w : World} {K : PySem.W.Frag} {mg : Str → Option Value} {base : Heap} {x qual : Str} {params : Arguments} {body : List Stmt} {scope : Scope} {dvs : List V} {kws : List (Str × V)} {f : Addr} {fd : FuncData} {N ps : List Str} {T : Tx} {Pr : Pg} {n : Nat} {sg : Sig} {F : List Dat → Res Dat} {ir : Ss}
    (D : FunD K x qual params body scope dvs kws f fd) (hs : FnScope N ps scope) (hp : ps.length = sg.ln.length) (hn : ps.length ≤ N.length) (hk : okSs (T.at_ sg.cl) n N scope sg.fr ir body = true)
    (hF : ∀ ds, ds.length = sg.ln.length → F ds ≠ .bad → runF Pr N.length sg.ln (sg.fr == 2) ir ds = F ds) (g : Gw P w K mg base T Pr n) :
    FnOk P w K mg base (CXB sg.cl P w) (n + 1) f fd ps (spD K mg sg F) := by
  refine D.ok hs (fun vs H Q E ⟨G, ds, h1, h2, h3, h4⟩ => by rw [h2, hp]) (fun cdv A outer s H vs Q E hr ⟨G, ds, h1, h2, h3, h4⟩ => ?_)
  have tk : ∀ b : Bool, TkB b (cxOf (CXB b P w) P w K mg base N qual scope f cdv A outer s H E) (fun cls d _ H => E cls d H) := fun b => by
    cases b
    · exact takes_of rfl rfl rfl rfl
    · exact L2N.takes_of rfl rfl rfl rfl
  have gs : Gs (cxOf (CXB sg.cl P w) P w K mg base N qual scope f cdv A outer s H E) (T.at_ sg.cl) Pr n (fun cls d _ H => E cls d H) :=
    ⟨⟨rfl, hs.nd, hr, tk sg.cl, g.fns, g.cons, g.blt, g.exs, g.exm, g.iss, g.exr⟩, passes_of rfl, fun _ => rfl, hs.kind, rfl, rfl⟩
  refine ⟨tS _ _ sg.fr (exSs Pr ir), snd_Ss ir body gs hk, H, G, G, _, SR.start h1 h3 (by rw [h2, ← hp]; exact hn), ?_⟩
  have hl : ds.length = sg.ln.length := by rw [← h3.len]; exact h2
  have e : runF Pr N.length sg.ln (sg.fr == 2) ir ds = F ds := hF ds hl (fun z => by rw [z] at h4; exact h4)
  rw [← e] at h4
  unfold runF at h4
  cases q : exSs Pr ir (ins sg.ln ds ++ List.replicate (N.length - ds.length) .un) with
  | nx ρ =>
    rw [q] at h4
    match hf : sg.fr, h4 with
    | 2, h4 => exact h4.elim
    | 0, h4 => exact fun σ H' G' s => h4 .non H' G' s.ext Rep.non
    | 1, h4 => exact fun σ H' G' s => h4 .non H' G' s.ext (.st Rep.non)
    | k + 3, h4 =>
      have hb : (k + 3 == 2) = false := rfl
      rw [hb] at h4
      exact fun σ H' G' s => h4 .non H' G' s.ext ⟨Rep.non, fun ds e => by cases e⟩
  | ct ρ => rw [q] at h4; exact h4.elim
  | ret d => rw [q] at h4; exact fun v H' G' x r => h4 v H' G' x r
  | exc c z => rw [q] at h4; exact fun cls dx σ H' G' x r => h4 cls dx H' G' x r
  | bad => rw [q] at h4; exact h4.elim
def _root_.NW.Pg.add (P : Pg) (n : Nat) (F : List Dat → Res Dat) : Pg := ⟨fun k => if k = n then F else P.F k, P.C, P.X, P.I⟩
theorem reps_ras {K : PySem.W.Frag} {H G : Hp} : ∀ {us : List V} {es : List Dat}, Reps K G us es → RAs K H G (List.replicate us.length false) us es
  | [], _, .nil => .nil
  | _ :: _, _, .cons r t => .cons (by simpa [List.replicate] using r) (reps_ras t)
theorem ras_lastly {K : PySem.W.Frag} {H G : Hp} : ∀ {ws : List Bool} {vs : List V} {ds : List Dat} {us : List V} {es : List Dat}, RAs K H G ws vs ds → vs.length = ws.length → Reps K G us es → RAs K H G (ws ++ List.replicate us.length false) (vs ++ us) (ds ++ es)
  | [], _, _, us, es, .nil, _, r => by simpa using reps_ras (H := H) r
  | _ :: _, _, _, _, _, .nil, h, _ => by simp at h
  | [], _, _, _, _, .cons _ _, h, _ => by simp at h
  | w :: ws, _, _, us, es, .cons h0 t, h, r => .cons h0 (ras_lastly t (by simpa using h) r)
theorem FnX.up {P : Program} {w : World} {K : PySem.W.Frag} {mg : Str → Option Value} {base : Heap} {n : Nat} {sg : Sig} {F : List Dat → Res Dat} (h : FnX P w K mg base n sg F) : FnX P w K mg base (n + 1) sg F := by
  unfold FnX at h ⊢
  cases q : sg.kw with
  | none =>
    rw [q] at h
    obtain ⟨f', fd', ps', ds', dvs', sp', h1, h2, h3, h4, h5, h6⟩ := h
    exact ⟨f', fd', ps', ds', dvs', sp', h1, h2, FnOk.up h3 (Nat.le_succ n), h4, h5, h6⟩
  | some v =>
    rw [q] at h
    obtain ⟨f', fd', ps', g', gV', sp', h1, h2, h3, h4, h5, h6⟩ := h
    exact ⟨f', fd', ps', g', gV', sp', h1, h2, FnOk.up h3 (Nat.le_succ n), h4, h5, h6⟩
theorem Gw.add {P : Program} {w : World} {K : PySem.W.Frag} {mg : Str → Option Value} {base : Heap} {T : Tx} {Pr : Pg} {n : Nat} {sg : Sig} {F : List Dat → Res Dat} (g : Gw P w K mg base T Pr n) (hT : T.fns[n]? = some sg) (h : FnX P w K mg base (n + 1) sg F) : Gw P w K mg base T (Pr.add n F) (n + 1) := by
  refine ⟨fun k sg' hk' hs' => ?_, fun k x h => g.cons k x h, g.blt, g.exs, g.exm, g.iss, g.exr⟩
  by_cases hk : k = n
  · subst hk
    rw [hT] at hs'
    cases hs'
    have e : (Pr.add k F).F k = F := if_pos rfl
    rw [e]
    exact h
  · have e : (Pr.add n F).F k = Pr.F k := if_neg hk
    rw [e]
    exact (g.fns k sg' (by omega) hs').up
theorem Gw.next {P : Program} {w : World} {K : PySem.W.Frag} {mg : Str → Option Value} {base : Heap} {x qual : Str} {params : Arguments} {body : List Stmt} {scope : Scope} {kws : List (Str × V)} {f : Addr} {fd : FuncData} {N ps : List Str} {T : Tx} {Pr : Pg} {n : Nat} {sg : Sig} {F : List Dat → Res Dat} {ir : Ss}
    (g : Gw P w K mg base T Pr n) (hT : T.fns[n]? = some sg) (D : FunD K x qual params body scope [] kws f fd) (hg : mg sg.nm = some (.ref f)) (hs : FnScope N ps scope) (hp : ps.length = sg.ln.length) (hn : ps.length ≤ N.length) (hk : okSs (T.at_ sg.cl) n N scope sg.fr ir body = true)
    (hF : ∀ ds, ds.length = sg.ln.length → F ds ≠ .bad → runF Pr N.length sg.ln (sg.fr == 2) ir ds = F ds)
    (hb : ∀ (kV doc pm : Value) (an : Option Addr) (cdv ct : Value) (us : List Value), us.length = ps.length → bindArgs (PySem.W.fnOf x qual params body scope Value.none kV doc pm an cdv ct) { pos := us } = pure (ps.zip us)) (hkw : sg.kw = none := by rfl) :
    Gw P w K mg base T (Pr.add n F) (n + 1) := by
  refine g.add hT ?_
  unfold FnX
  rw [hkw]
  exact ⟨f, fd, ps, [], [], _, hg, D.kp, fn_ok D hs hp hn hk hF g, D.bindsN hb, .nil, fun vs H Q E q => by rw [List.append_nil]; exact q⟩
/-- a def with defaults, dvs; des: what they are; called with all that lacks behind the first parameters -/
theorem Gw.nextD {P : Program} {w : World} {K : PySem.W.Frag} {mg : Str → Option Value} {base : Heap} {x qual : Str} {params : Arguments} {body : List Stmt} {scope : Scope} {dvs : List V} {kws : List (Str × V)} {f : Addr} {fd : FuncData} {N ps : List Str} {T : Tx} {Pr : Pg} {n : Nat} {sg sg0 : Sig} {F F0 : List Dat → Res Dat} {ir : Ss}
    {j : Nat} {es : List Dat}
    (g : Gw P w K mg base T Pr n) (hT : T.fns[n]? = some sg) (D : FunD K x qual params body scope dvs kws f fd) (hg : mg sg.nm = some (.ref f)) (hs : FnScope N ps scope) (hp : ps.length = sg0.ln.length) (hn : ps.length ≤ N.length) (hk : okSs (T.at_ sg0.cl) n N scope sg0.fr ir body = true)
    (hF : ∀ ds, ds.length = sg0.ln.length → F0 ds ≠ .bad → runF Pr N.length sg0.ln (sg0.fr == 2) ir ds = F0 ds)
    (hfr : sg.fr = sg0.fr) (hcl : sg.cl = sg0.cl := by rfl) (hln : sg0.ln = sg.ln ++ List.replicate (dvs.drop j).length false) (he : ∀ G, Reps K G (dvs.drop j) es) (hF1 : ∀ ds, F ds = F0 (ds ++ es)) (hd : dvs ≠ [])
    (hb : ∀ (T : Addr) (kV doc pm : Value) (an : Option Addr) (cdv ct : Value) (us its : List Value), us.length = sg.ln.length → its.length = dvs.length →
      ∃ k, bindArgs (PySem.W.fnOf x qual params body scope (.ref T) kV doc pm an cdv ct) { pos := us } = seqItems? (.ref T) >>= k ∧ k (some its.toArray) = pure (ps.zip (us ++ its.drop j))) (hkw : sg.kw = none := by rfl) :
    Gw P w K mg base T (Pr.add n F) (n + 1) := by
  refine g.add hT ?_
  unfold FnX
  rw [hkw]
  have hlen : sg.ln.length + (dvs.length - j) = ps.length := by
    rw [hp, hln, List.length_append, List.length_replicate, List.length_drop]
  obtain ⟨ds, rds, hB⟩ := D.binds1 sg.ln.length j hd hlen hb
  have hfo := fn_ok D hs hp hn hk hF g
  rw [← hcl] at hfo
  refine ⟨f, fd, ps, ds, dvs.drop j, _, hg, D.kp, hfo, hB, rds, fun vs H Q E q => ?_⟩
  obtain ⟨G, ds', h1, h2, h3, h4⟩ := q
  refine ⟨G, ds' ++ es, h1, ?_, ?_, ?_⟩
  · rw [hln, List.length_append, List.length_append, List.length_replicate, h2]
  · rw [hln]
    exact ras_lastly h3 h2 (he G)
  · rw [← hF1, ← hfr]
    exact h4
theorem ras_strong {K : PySem.W.Frag} {H G : Hp} : ∀ {m : Nat} {vs : List V} {ds : List Dat}, RAs K H G (List.replicate m false) vs ds → Reps K G vs ds
  | _, _, _, .nil => .nil
  | 0, _, _, .cons r t => .cons (by simpa using r) (ras_strong (m := 0) t)
  | m + 1, _, _, .cons r t => .cons (by simpa [List.replicate] using r) (ras_strong t)
/-- .. with the last parameter told by its name, w; behind m written ones stand j defaults -/
theorem Gw.nextK {P : Program} {w_ : World} {K : PySem.W.Frag} {mg : Str → Option Value} {base : Heap} {x qual : Str} {params : Arguments} {body : List Stmt} {scope : Scope} {dvs : List V} {kws : List (Str × V)} {f : Addr} {fd : FuncData} {N ps : List Str} {T : Tx} {Pr : Pg} {n : Nat} {sg sg0 : Sig} {F F0 : List Dat → Res Dat} {ir : Ss}
    {j m : Nat} {es : List Dat} {w : Str}
    (g : Gw P w_ K mg base T Pr n) (hT : T.fns[n]? = some sg) (D : FunD K x qual params body scope dvs kws f fd) (hg : mg sg.nm = some (.ref f)) (hs : FnScope N ps scope) (hp : ps.length = sg0.ln.length) (hn : ps.length ≤ N.length) (hk : okSs (T.at_ sg0.cl) n N scope sg0.fr ir body = true)
    (hF : ∀ ds, ds.length = sg0.ln.length → F0 ds ≠ .bad → runF Pr N.length sg0.ln (sg0.fr == 2) ir ds = F0 ds)
    (hkw : sg.kw = some w) (hfr : sg.fr = sg0.fr) (hcl : sg.cl = sg0.cl := by rfl) (hln : sg.ln = List.replicate (m + 1) false) (hln0 : sg0.ln = List.replicate ps.length false) (hlen : m + (j + 1) = ps.length) (hj : j ≤ dvs.length)
    (he : ∀ G, Reps K G (dvs.take j) es) (hF1 : ∀ ds d, ds.length = m → F (ds ++ [d]) = F0 (ds ++ (es ++ [d]))) (hd : dvs ≠ [])
    (hb : ∀ (T : Addr) (kV doc pm : Value) (an : Option Addr) (cdv ct : Value) (us its : List Value) (v : Value), us.length = m → its.length = dvs.length →
      ∃ k, bindArgs (PySem.W.fnOf x qual params body scope (.ref T) kV doc pm an cdv ct) ⟨us, [(w, v)]⟩ = seqItems? (.ref T) >>= k ∧ k (some its.toArray) = pure (ps.zip (us ++ (its.take j ++ [v])))) :
    Gw P w_ K mg base T (Pr.add n F) (n + 1) := by
  refine g.add hT ?_
  unfold FnX
  rw [hkw]
  have hF' := fn_ok D hs hp hn hk hF g
  rw [← hcl] at hF'
  have kp := D.kp
  obtain ⟨oc, od, dV, kV, doc, pm, an, cdv, ct, osl, rfl, lk, hcd, hD, hK⟩ := D.ex
  rcases hD with ⟨e, _⟩ | ⟨_, T', o, its, m', rfl, lT, oT, rT⟩
  · exact absurd e hd
  · refine ⟨f, _, ps, fun us ws => us ++ (its.take j ++ ws), fun vs zs => vs ++ (dvs.take j ++ zs), _, hg, kp, hF', ⟨fun s us ws X l1 l2 => ?_, fun r1 r2 => r1.append ((rT.take j).append r2)⟩, by rw [hln, List.length_replicate], fun vs z H Q E q => ?_⟩
    · match ws, l2 with
      | [v], _ =>
        rw [hln, List.length_replicate] at l1
        obtain ⟨k, e1, e2⟩ := hb T' kV doc pm an cdv ct us its v (by simpa using l1) rT.length.symm
        refine BindsTo.of_looks fun M => ?_
        show PySem.W.Looks M s.heap (bindArgs _ ⟨us, [(w, v)]⟩) _
        rw [e1]
        exact looks_items X lT oT (.of_pure e2)
    · obtain ⟨G, ds', h1, h2, h3, h4⟩ := q
      rw [hln] at h2 h3
      have rr := ras_strong h3
      rw [List.length_append, List.length_replicate] at h2
      have hvl : vs.length = m := by simpa using h2
      have hdl : ds'.length = m + 1 := by rw [← rr.length, List.length_append, hvl]; rfl
      obtain ⟨ds1, d, rfl⟩ : ∃ ds1 d, ds' = ds1 ++ [d] := by
        have hne : ds' ≠ [] := fun z => by rw [z] at hdl; simp at hdl
        exact ⟨ds'.dropLast, ds'.getLast hne, (List.dropLast_concat_getLast hne).symm⟩
      have hd1 : ds1.length = m := by simpa using hdl
      have r1 : Reps K G vs ds1 := by
        have := rr.take m
        rwa [List.take_left' hvl, List.take_left' hd1] at this
      have r2 : Reps K G [z] [d] := by
        have := rr.drop m
        rwa [List.drop_left' hvl, List.drop_left' hd1] at this
      refine ⟨G, ds1 ++ (es ++ [d]), h1, ?_, ?_, ?_⟩
      · rw [hln0, List.length_replicate, List.length_append, List.length_append, hvl, List.length_take, Nat.min_eq_left hj]
        exact hlen
      · rw [hln0]
        exact ras_false (r1.append ((he G).append r2))
      · rw [← hF1 ds1 d hd1, ← hfr]
        exact h4
/-! ### more of what the top leaves -/
/-- self.row = row, as it is written -/
def initB (sc : Scope) : List Stmt → Bool
  | [st] => (match st with
    | .Assign ts y _ => (match ts with
      | [t] => (match t with
        | .Attribute o m _ => nmE "self" o && decide (m = ("row" : Str)) && nmE "row" y && visB sc "self" && visB sc "row"
        | _ => false)
      | _ => false)
    | _ => false)
  | _ => false
theorem initB_ok {sc : Scope} {b : List Stmt} (h : initB sc b = true) : ∃ p1 p2 p3 p4, b = [.Assign [.Attribute (.Name "self" p1) "row" p2] (.Name "row" p3) p4] ∧ visB sc "self" = true ∧ visB sc "row" = true := by
  cases b with
  | nil => cases h
  | cons st r =>
    cases r with
    | cons _ _ => cases h
    | nil =>
      simp only [initB] at h
      cases st <;> simp only at h <;> try (cases h; done)
      rename_i ts y p4
      cases ts with
      | nil => cases h
      | cons t r =>
        cases r with
        | cons _ _ => cases h
        | nil =>
          cases t <;> simp only at h <;> try (cases h; done)
          rename_i o m p2
          simp only [Bool.and_eq_true, decide_eq_true_eq] at h
          obtain ⟨⟨⟨⟨h1, rfl⟩, h3⟩, h4⟩, h5⟩ := h
          obtain ⟨p1, rfl⟩ := nmE_ok h1
          obtain ⟨p3, rfl⟩ := nmE_ok h3
          exact ⟨_, _, _, _, rfl, h4, h5⟩
theorem init_run {X : Cx} {body : List Stmt} (hN : X.N = [("self" : Str), ("row" : Str)]) (hb : initB X.env.scope body = true) : PSs X body (tOst X.K "row" (tVar 0) (tVar 1)) := by
  obtain ⟨p1, p2, p3, p4, rfl, h1, h2⟩ := initB_ok hb
  exact pss_one (ps_ost (pe_var (i := 0) (by rw [hN]; rfl) (vis_of h1)) (pe_var (i := 1) (by rw [hN]; rfl) (vis_of h2)))
theorem init_end {K : PySem.W.Frag} {vs : List V} {H : Hp} {Q : VK} {E : XK} (h : spInit K vs H Q E) : tOst K "row" (tVar 0) (tVar 1) { nx := fun _ H' => Q .non H', rt := Q } (L2.start ["self", "row"] vs) H := by
  obtain ⟨a, C, v, rfl, h1, h2, h3, h4⟩ := h
  exact ⟨_, rfl, _, rfl, a, C, rfl, h1, h2, .inl ⟨h3, h4⟩⟩
theorem init_len {K : PySem.W.Frag} (vs : List V) (H : Hp) (Q : VK) (E : XK) (h : spInit K vs H Q E) : vs.length = [("self" : Str), ("row" : Str)].length := by
  obtain ⟨a, C, v, rfl, _⟩ := h
  rfl
theorem init_fn {P : Program} {w : World} {K : PySem.W.Frag} {mg : Str → Option Value} {base : Heap} {x qual : Str} {params : Arguments} {body : List Stmt} {scope : Scope} {f : Addr} {fd : FuncData}
    (D : FunD K x qual params body scope [] [] f fd) (hs : FnScope ["self", "row"] ["self", "row"] scope) (hb : initB scope body = true) :
    FnOk P w K mg base (L2.CX P w) 1 f fd ["self", "row"] (spInit K) ∧ L2H.FnH P w K mg base (L2.CX P w) 1 f fd ["self", "row"] (spInit K) := by
  refine ⟨D.ok hs init_len fun cdv A outer s H vs Q E hr h => ⟨_, init_run rfl hb, init_end h⟩, ?_⟩
  obtain ⟨oc, od, dV, kV, doc, pm, an, cdv, ct, osl, rfl, lk, hcd, _, _⟩ := D.ex
  exact L2H.fn_ofH lk hcd hs init_len fun A outer s H vs Q E p hot hr h => ⟨_, init_run rfl hb, init_end h⟩
/-- what the top says of a class that is made with a row -/
def oexCls (K : PySem.W.Frag) (C : Addr) : Bool := match K.lookup C with
  | some ⟨.type "type", _, .cls cd, sl⟩ => (match cd.mro, sl.toList with
    | .ref C2 :: l, [_, _, _, _, some (.builtin m), _] => (C2 == C) && ((m == "ValueError.__new__") && (!cd.hasDel && (cd.hasDict && PySem.HandSPX.refsVE l)))
    | _, _ => false)
  | _ => false
theorem oexCls_ok {K : PySem.W.Frag} {C : Addr} (h : oexCls K C = true) : ∃ nm q N bs bm sn sub ab col dd k0 k1 k2 k3 k5, K.lookup C = some (excClassObj nm q C N bs bm true sn sub ab col dd k0 k1 k2 k3 k5 "ValueError.__new__") ∧ PySem.HandSPX.refsVE bm = true := by
  unfold oexCls at h
  split at h
  · rename_i dd cd sl hl
    split at h
    · rename_i C2 l a0 a1 a2 a3 m a5 e1 e2
      obtain ⟨h1, h⟩ := He.ba h
      obtain ⟨h2, h⟩ := He.ba h
      obtain ⟨h3, h⟩ := He.ba h
      obtain ⟨h4, h5⟩ := He.ba h
      have h1 := eq_of_beq h1
      have h2 := eq_of_beq h2
      subst h1 h2
      obtain ⟨n1, n2, n3, n4, n5, n6, n7, n8, n9, n10, n11⟩ := cd
      dsimp only at e1 h3 h4
      subst e1 h4
      have h3' : n11 = false := by simpa using h3
      subst h3'
      have es : sl = #[a0, a1, a2, a3, some (.builtin "ValueError.__new__"), a5] := by
        cases sl
        exact congrArg Array.mk e2
      subst es
      exact ⟨_, _, _, _, l, _, _, _, _, _, _, _, _, _, _, hl, h5⟩
    · cases h
  · cases h
def rwB (K : PySem.W.Frag) (C fI : Addr) : Bool := xfB K C && (oexCls K C && (He.eqO (PySem.W.findIn K (.ref C) "__setattr__") (some (some (.builtin "object.__setattr__"))) && (decide (PySem.W.subIn K (.ref C) (.type "BaseException") = some true) && (decide (PySem.W.typeIn K (.ref C) = some (.type "type")) &&
  (PySem.W.keepIn K (.ref C) && (He.eqO (PySem.W.findIn K (.ref C) "row") (some none) && (He.eqO (PySem.W.findIn K (.ref C) "__init__") (some (some (.ref fI))) && decide (PySem.W.typeIn K (.ref fI) = some (.type "function")))))))))
theorem rwB_ok {P : Program} {w : World} {K : PySem.W.Frag} {mg : Str → Option Value} {base : Heap} {C fI : Addr} {fd : FuncData} (h : rwB K C fI = true) (h1 : FnOk P w K mg base (L2.CX P w) 1 fI fd ["self", "row"] (spInit K))
    (h2 : L2H.FnH P w K mg base (L2.CX P w) 1 fI fd ["self", "row"] (spInit K)) (h3 : Binds K fd ["self", "row"] []) : RwK P w K mg base C := by
  obtain ⟨a0, h⟩ := He.ba h
  obtain ⟨a1, h⟩ := He.ba h
  obtain ⟨a2, h⟩ := He.ba h
  obtain ⟨a3, h⟩ := He.ba h
  obtain ⟨a4, h⟩ := He.ba h
  obtain ⟨a5, h⟩ := He.ba h
  obtain ⟨a6, h⟩ := He.ba h
  obtain ⟨a7, a8⟩ := He.ba h
  exact ⟨fI, fd, ⟨oexCls_ok a1, He.eqO_ok a2, of_decide_eq_true a3, of_decide_eq_true a4, a5⟩, He.eqO_ok a6, He.eqO_ok a7, of_decide_eq_true a8, h1, h2, h3, xfB_ok a0⟩
/-! ### a def that is one try -/
def okX (T : Tx) (n : Nat) (N : List Str) (sc : Scope) (e : E) (c d : Str) (i : Nat) : List Stmt → Bool
  | [st] => (match tryX1 c st with
    | some (y, d', v) => decide (d' = d) && glB sc c && okN c && T.exs.contains c && glB sc d && okN d && T.exr.contains d && decide (2 ≤ n) && decide (N[i]? = some v) && visB sc v && okN v && okE (T.at_ true) n N sc e y && kd (T.at_ true) e != 1
    | none => false)
  | _ => false
theorem fn_okX {P : Program} {w : World} {K : PySem.W.Frag} {mg : Str → Option Value} {base : Heap} {x qual : Str} {params : Arguments} {body : List Stmt} {scope : Scope} {dvs : List V} {kws : List (Str × V)} {f : Addr} {fd : FuncData} {N ps : List Str} {T : Tx} {Pr : Pg} {n : Nat} {sg : Sig} {F : List Dat → Res Dat} {e : E} {c d : Str} {i : Nat}
    (D : FunD K x qual params body scope dvs kws f fd) (hs : FnScope N ps scope) (hp : ps.length = sg.ln.length) (hn : ps.length ≤ N.length) (hk : okX T n N scope e c d i body = true) (hfr : sg.fr = 0)
    (hF : ∀ ds, ds.length = sg.ln.length → F ds ≠ .bad → runF Pr N.length sg.ln (sg.fr == 2) (.cons (.tryX e c d i) .nil) ds = F ds) (g : Gw P w K mg base T Pr n) :
    FnOk P w K mg base (L2.CX P w) (n + 1) f fd ps (spD K mg sg F) := by
  refine D.ok hs (fun vs H Q E ⟨G, ds, h1, h2, h3, h4⟩ => by rw [h2, hp]) (fun cdv A outer s H vs Q E hr ⟨G, ds, h1, h2, h3, h4⟩ => ?_)
  cases body with
  | nil => cases hk
  | cons st rst =>
    cases rst with
    | cons _ _ => cases hk
    | nil =>
      simp only [okX] at hk
      cases qt : tryX1 c st with
      | none => rw [qt] at hk; cases hk
      | some p =>
        obtain ⟨y, d', v⟩ := p
        rw [qt] at hk
        obtain ⟨p1, np, hp', rp, vp, cp, pos, tp, rfl⟩ := tryX1_ok qt
        simp only [Bool.and_eq_true, decide_eq_true_eq, bne_iff_ne] at hk
        obtain ⟨⟨⟨⟨⟨⟨⟨⟨⟨⟨⟨⟨rfl, k1⟩, k2⟩, k3⟩, k4⟩, k5⟩, k6⟩, k7⟩, k8⟩, k9⟩, k10⟩, k11⟩, k12⟩ := hk
        obtain ⟨C, hC, _⟩ := g.exs _ (List.contains_iff_mem.mp k3)
        obtain ⟨C2, hC2, fI, fd2, r1, r2, r3, r4, r5, r6, r7, r8⟩ := g.exr _ (List.contains_iff_mem.mp k6)
        have gc : scope.names.lookup c = some .globalImplicit := of_decide_eq_true k1
        have gd : scope.names.lookup d' = some .globalImplicit := of_decide_eq_true k4
        have hl : ds.length = sg.ln.length := by rw [← h3.len]; exact h2
        have eF := hF ds hl (fun z => by rw [z] at h4; exact h4)
        rw [← eF] at h4
        let X := cxOf (L2.CX P w) P w K mg base N qual scope f cdv A outer s H E
        have tk : Takes X (fun cls d _ H => E cls d H) := takes_of rfl rfl rfl rfl
        have st0 : SR X.K H G (ins sg.ln ds ++ List.replicate (N.length - ds.length) .un) (L2.start N vs) H G := SR.start (N := N) h1 h3 (by rw [h2, ← hp]; exact hn)
        have PSx := L2H.ps_try_onlyX (X := X) (x := c) (c := .ref C) (np := np) (pos := tp) (pos' := hp') (suite := []) (tb := fun W' D σ H => tK X Pr W' 0 e σ H D.rt)
          (ts := fun a cls dd D σ H => tMkO C2 (spInit K) [] (tCons (tVar i) tNil) σ H fun cls d H' => E cls d H') (Wout := fun cls d _ H => E cls d H) (b₀ := .Raise (some (.Call (.Name d' rp) [.Name v vp] [] cp)) none pos) (body := [.Return (some y) p1])
          rfl rfl ⟨gc, okN_d k2, .inl hC⟩ (L2H.passesAt_of rfl) tk
          (fun W' pn xe tkN _ ps => PSs.imp (pss_one (ps_ret (stillE k12 (snd_E (P := Pr) (T := T.at_ true) (n := n) e (X.tr pn xe) W' y ⟨rfl, hs.nd, hr, tkN, g.fns, g.cons, g.blt, g.exs, g.exm, g.iss, g.exr⟩ k11).pe))) fun D σ H q => q)
          (fun a oe cls dd pn hz hf tkS hot => pss_one (L2H.ps_raiseH hot tkS (L2H.PMk5.pmk (L2H.pmk5_oexH (X := L2H.suiteX X a ((a, oe) :: pn)) r1 r3 r4 r6 (L2H.roomH_mark (hr.mono k7) _) hot r7 passes0 gd hC2
            (pa_cons (pe_var (X := L2H.suiteX X a ((a, oe) :: pn)) k8 (vis_of k9) (okN_d k10) (okN_c k10)) pa_nil rfl) (okN_d k5) rfl rfl))))
        refine ⟨_, pss_one PSx, ?_⟩
        unfold runF at h4
        simp only [exSs, exS] at h4
        refine ⟨H, G, _, st0.er, ?_⟩
        cases qe : ev Pr e (ins sg.ln ds ++ List.replicate (N.length - ds.length) .un) with
        | bad => rw [qe] at h4; exact h4.elim
        | ok d0 =>
          rw [qe] at h4
          intro v0 H1 G1 x1 rv
          refine h4 v0 H1 G1 (st0.ext.trans x1) ?_
          rw [hfr]
          exact rv
        | exc c1 z =>
          rw [qe] at h4
          simp only [tryXO] at h4
          cases qm : Pr.X c1 c with
          | none => rw [qm] at h4; exact h4.elim
          | some b =>
            rw [qm] at h4
            obtain ⟨D1, D2, m1, m2, m3⟩ := g.exm c1 c b qm
            rw [hC] at m2
            cases m2
            intro cls dx H1 G1 x1 rv
            obtain ⟨⟨D3, m4, rfl⟩, rv2⟩ := rv
            have m4 : mg c1 = some (.ref D3) := m4
            rw [m1] at m4
            cases m4
            refine ⟨b, m3, fun hb a na => ?_, fun hb => ?_⟩
            · subst hb
              simp only at h4
              cases hd : getS (ins sg.ln ds ++ List.replicate (N.length - ds.length) .un) i with
              | fz vd =>
                rw [hd] at h4
                obtain ⟨o, o1, v1, rfl, rv1⟩ := (st0.on x1).er.at_ i _ (getS_some hd nofun)
                refine ⟨v1, o1, ?_⟩
                refine mk_row (H := H1) (v := v1) (Q := fun cls d H' => E cls d H') r1 r2 fun a dx na nd hda => ?_
                obtain ⟨y1, y2⟩ := made_row (mg := mg) (c := d') (st0.on x1).er.sub na nd hda hC2 rv1
                exact h4 _ _ _ _ ((st0.on x1).ext.trans y1) y2
              | un => rw [hd] at h4; exact h4.elim
              | ow _ => rw [hd] at h4; exact h4.elim
              | ln _ => rw [hd] at h4; exact h4.elim
              | ex _ _ _ _ => rw [hd] at h4; exact h4.elim
            · subst hb
              exact h4 _ dx H1 G1 (st0.ext.trans x1) ⟨⟨D1, m1, rfl⟩, rv2⟩
theorem Gw.nextX {P : Program} {w : World} {K : PySem.W.Frag} {mg : Str → Option Value} {base : Heap} {x qual : Str} {params : Arguments} {body : List Stmt} {scope : Scope} {kws : List (Str × V)} {f : Addr} {fd : FuncData} {N ps : List Str} {T : Tx} {Pr : Pg} {n : Nat} {sg : Sig} {F : List Dat → Res Dat} {e : E} {c d : Str} {i : Nat}
    (g : Gw P w K mg base T Pr n) (hT : T.fns[n]? = some sg) (D : FunD K x qual params body scope [] kws f fd) (hg : mg sg.nm = some (.ref f)) (hs : FnScope N ps scope) (hp : ps.length = sg.ln.length) (hn : ps.length ≤ N.length) (hk : okX T n N scope e c d i body = true)
    (hF : ∀ ds, ds.length = sg.ln.length → F ds ≠ .bad → runF Pr N.length sg.ln (sg.fr == 2) (.cons (.tryX e c d i) .nil) ds = F ds)
    (hb : ∀ (kV doc pm : Value) (an : Option Addr) (cdv ct : Value) (us : List Value), us.length = ps.length → bindArgs (PySem.W.fnOf x qual params body scope Value.none kV doc pm an cdv ct) { pos := us } = pure (ps.zip us)) (hkw : sg.kw = none := by rfl) (hfr : sg.fr = 0 := by rfl) (hcl : sg.cl = false := by rfl) :
    Gw P w K mg base T (Pr.add n F) (n + 1) := by
  refine g.add hT ?_
  unfold FnX
  rw [hkw]
  have z := fn_okX D hs hp hn hk hfr hF g
  refine ⟨f, fd, ps, [], [], _, hg, D.kp, ?_, D.bindsN hb, .nil, fun vs H Q E q => by rw [List.append_nil]; exact q⟩
  rw [hcl]
  exact z
def kitB (K : PySem.W.Frag) (D : Addr) (cv : Value) (b : Bool) : Bool := decide (PySem.W.kitOne K (.ref D) cv = some b)
theorem kitB_ok {K : PySem.W.Frag} {D : Addr} {cv : Value} {b : Bool} (h : kitB K D cv b = true) : PySem.W.kitOne K (.ref D) cv = some b := of_decide_eq_true h
def excCB (K : PySem.W.Frag) (D : Addr) : Bool := He.eqO (PySem.W.findIn K (.ref D) "row") (some none) && (He.eqO (PySem.W.findIn K (.ref D) "__getattribute__") (some (some (.builtin "BaseException.__getattribute__"))) && (He.eqO (PySem.W.findIn K (.ref D) "__getattr__") (some none) &&
  (decide (PySem.W.subIn K (.ref D) (.type "BaseException") = some true) && (PySem.W.hasDictIn K D && (He.eqO (PySem.W.findIn K (.ref D) "__class__") (some (some (.builtin "object.__class__"))) &&
  (He.eqO (PySem.W.specialIn K (.builtin "object.__class__") "__get__") (some (some (.builtin "getset_descriptor.__get__"))) && (decide (PySem.W.takesIn K (.builtin "object.__class__") = some true) && decide (PySem.W.mroIn K D (.type "object") = some true))))))))
theorem excCB_ok {K : PySem.W.Frag} {D : Addr} (h : excCB K D = true) : ExcC K D ∧ PySem.W.findIn K (.ref D) "row" = some none := by
  obtain ⟨h0, h⟩ := He.ba h
  refine ⟨?_, He.eqO_ok h0⟩
  obtain ⟨h1, h⟩ := He.ba h
  obtain ⟨h2, h⟩ := He.ba h
  obtain ⟨h3, h⟩ := He.ba h
  obtain ⟨h4, h⟩ := He.ba h
  obtain ⟨h5, h⟩ := He.ba h
  obtain ⟨h6, h⟩ := He.ba h
  obtain ⟨h7, h8⟩ := He.ba h
  exact ⟨He.eqO_ok h1, He.eqO_ok h2, of_decide_eq_true h3, h4, He.eqO_ok h5, He.eqO_ok h6, of_decide_eq_true h7, of_decide_eq_true h8⟩
abbrev AlX : Type := He.AlD × Bool
def exAll (ex : List (PySem.W.Frag → Bool)) (K : PySem.W.Frag) : Bool := ex.all fun f => f K
def obsXG (n : Nat) (fa : List He.Fa) (fn : List He.DefD) (ex : List (PySem.W.Frag → Bool)) (g : Addr → Option Obj) : AlX := (He.obsDG n fa fn g, exAll ex (He.frG g (He.asD g n)))
def hookX (n : Nat) (fa : List He.Fa) (fn : List He.DefD) (ex : List (PySem.W.Frag → Bool)) : PySem.W.Hook where
  α := AlX
  obs := fun s => obsXG n fa fn ex s.heap.get?
  val := fun _ => (He.valD fn, true)
  says := fun _ h => ∃ K : PySem.W.Frag, K.In h ∧ He.SaysD fa fn K ∧ exAll ex K = true
  of := fun _ _ e => ⟨_, He.frG_in, congrArg (fun z : AlX => z.1) e, congrArg (fun z : AlX => z.2) e⟩
  keeps := fun _ _ _ ⟨K, hK, c⟩ k => ⟨K, PySem.W.Frag.In.keeps hK k, c⟩
theorem obsXG_eq {n : Nat} {fa : List He.Fa} {fn : List He.DefD} {ex : List (PySem.W.Frag → Bool)} {g : Addr → Option Obj} {s : Shared} (h : ∀ a, g a = s.heap.get? a) : obsXG n fa fn ex g = (hookX n fa fn ex).obs s := by
  have e : g = s.heap.get? := funext h
  rw [e] <;> rfl
theorem exAll_at {ex : List (PySem.W.Frag → Bool)} {K : PySem.W.Frag} (h : exAll ex K = true) (i : Nat) {f : PySem.W.Frag → Bool} (e : ex[i]? = some f) : f K = true := List.all_eq_true.mp h f (List.mem_of_getElem? e)
/-- a global tuple of texts -/
def strsB : List Value → List Str → Bool
  | [], [] => true
  | .str y _ :: vs, z :: zs => decide (y = z) && strsB vs zs
  | _, _ => false
theorem strsB_ok : ∀ {vs : List Value} {zs : List Str}, strsB vs zs = true → Vals (zs.map V.str) vs
  | [], [], _ => .nil
  | [], _ :: _, h => by cases h
  | v :: vs, [], h => by cases v <;> cases h
  | v :: vs, z :: zs, h => by
    cases v <;> simp only [strsB] at h <;> try (cases h; done)
    rw [Bool.and_eq_true, decide_eq_true_eq] at h
    obtain ⟨rfl, h⟩ := h
    exact .cons ⟨_, rfl⟩ (strsB_ok h)
theorem reps_strs {K : PySem.W.Frag} {G : Hp} : ∀ zs : List Str, Reps K G (zs.map V.str) (zs.map PyData.str)
  | [] => .nil
  | z :: zs => .cons (.str z) (reps_strs zs)
def tupOB (o : Option Obj) (zs : List Str) : Bool := match o with
  | some o => decide (o.cls = .type "tuple") && (match o.data with
    | .seq its _ => decide (its.size ≤ 1000) && strsB its.toList zs
    | _ => false)
  | none => false
def tupSB (K : PySem.W.Frag) (x : Str) (zs : List Str) : Bool := match PySem.W.nsIn K mainGlobals x with
  | some (some (.ref a)) => tupOB (K.lookup a) zs
  | _ => false
theorem tupSB_ok {K : PySem.W.Frag} {h : Heap} {mg : Str → Option Value} (X : K.In h) (G : h.Ns mainGlobals mg) {x : Str} {zs : List Str} (c : tupSB K x zs = true) : ∃ u v, mg x = some u ∧ RelV v u ∧ ∀ G, Rep K G v (.tuple (zs.map .str)) := by
  unfold tupSB at c
  split at c
  · rename_i a e
    refine ⟨.ref a, .ref a, PySem.W.mg_of X G e, rfl, fun G => ?_⟩
    cases q : K.lookup a with
    | none => rw [q] at c; cases c
    | some o =>
      rw [q] at c
      simp only [tupOB, Bool.and_eq_true, decide_eq_true_eq] at c
      obtain ⟨c1, c2⟩ := c
      cases qd : o.data with
      | seq its n =>
        rw [qd] at c2
        simp only [Bool.and_eq_true, decide_eq_true_eq] at c2
        exact .tup (.inr ⟨o, its, n, q, c1, qd, Nat.le_trans c2.1 (by rw [sizeLine_eq]; decide), strsB_ok c2.2⟩) (reps_strs zs)
      | _ => rw [qd] at c2; cases c2
  · cases c
/-- a table of which class meets which clause -/
def xmF : List (Str × Str × Bool) → Str → Str → Option Bool
  | [], _, _ => none
  | (a, b, r) :: l, c, c' => if a = c ∧ b = c' then some r else xmF l c c'
theorem xm_of {p : Str → Str → Bool → Prop} : ∀ {l : List (Str × Str × Bool)} {c c' : Str} {b : Bool}, xmF l c c' = some b → (∀ q ∈ l, p q.1 q.2.1 q.2.2) → p c c' b
  | [], _, _, _, h, _ => by cases h
  | (a, b, r) :: l, c, c', z, h, q => by
    unfold xmF at h
    split at h
    · rename_i e
      obtain ⟨rfl, rfl⟩ := e
      cases h
      exact q (a, b, r) (by simp)
    · exact xm_of h fun x hx => q x (by simp [hx])
theorem reps_ints {K : PySem.W.Frag} {G : Hp} : ∀ ns : List Int, Reps K G (ns.map V.int) (ns.map PyData.int)
  | [] => .nil
  | n :: ns => .cons (.int n) (reps_ints ns)
theorem law_sp {K : PySem.W.Frag} {mg : Str → Option Value} {nm : Str} {b : Bool} {F : List Dat → Res Dat} {H : Hp} {a : Addr} {ns : List Int} (h : F [.list (ns.map .int)] = .ok (.bool true)) (hS : SqL K H a (ns.map V.int)) :
    spD K mg ⟨nm, [b], 0, none, false⟩ F [.ref a] H (fun v _ => v = .bl true) (fun _ _ _ => False) := by
  have r : Rep K H (.ref a) (.list (ns.map .int)) := .lst hS (reps_ints ns)
  refine ⟨H, [.list (ns.map .int)], Same.refl H, rfl, .cons ?_ .nil, ?_⟩
  · cases b
    · exact r
    · exact RW.st r
  · rw [h]
    intro v H' G' x r
    cases r
    rfl
theorem law_F {P : Program} {w : World} {K : PySem.W.Frag} {mg : Str → Option Value} {base : Heap} {x qual : Str} {params : Arguments} {body : List Stmt} {scope : Scope} {kws : List (Str × V)} {f : Addr} {fd : FuncData} {N ps : List Str} {T : Tx} {Pr : Pg} {n : Nat} {sg : Sig} {F : List Dat → Res Dat} {ir : Ss}
    (g : Gw P w K mg base T Pr n) (D : FunD K x qual params body scope [] kws f fd) (hs : FnScope N ps scope) (hp : ps.length = sg.ln.length) (hn : ps.length ≤ N.length) (hk : okSs (T.at_ sg.cl) n N scope sg.fr ir body = true)
    (hF : ∀ ds, ds.length = sg.ln.length → F ds ≠ .bad → runF Pr N.length sg.ln (sg.fr == 2) ir ds = F ds) (hcl : sg.cl = false := by rfl) : FnOk P w K mg base (L2.CX P w) (n + 1) f fd ps (spD K mg sg F) := by
  have z := fn_ok D hs hp hn hk hF g
  rw [hcl] at z
  exact z
/-- nothing leaves the law -/
theorem law_end {P : Program} {w : World} {K : PySem.W.Frag} {mg : Str → Option Value} {base : Heap} {k : Nat} {f : Addr} {fd : FuncData} {ps : List Str} {sp : Sp} (h : FnOk P w K mg base (L2.CX P w) k f fd ps sp) :
    FnOk P w K mg base CX0 k f fd ps (fun vs H Q _ => sp vs H Q (fun _ _ _ => False)) :=
  ⟨fun vs H Q E q => h.len vs H Q _ q, fun A outer s H args us vs Q E r e b v q => codeAny_mono (h.run A outer s H args us vs Q _ r e b v q) fun r s' z => by
    cases r with
    | ok fl => cases fl <;> exact z
    | error e =>
      obtain ⟨a, B, H', cls, d, _, _, _, _, _, _, _, z⟩ := z
      exact z⟩
/-- a class's k-th method, by place -/
def mth (st : Stmt) (k : Nat) : Stmt :=
  match st with
  | .ClassDef _ _ _ b _ _ _ _ _ _ _ => b.getD k (.Pass ⟨0, 0, 0, 0⟩)
  | _ => .Pass ⟨0, 0, 0, 0⟩
end NW
end

section
set_option maxHeartbeats 4000000
/-! Reading terms by simp; general laws of loops, cuts, equality over data. -/
namespace NW
open PySem PySem.Spec PyProof.Rows L2
/-! ### the steps of terms, without binders -/
def binR (o : Bop) (r s : Res Dat) : Res Dat := r >>= fun d => s >>= fun e => binD o d e
@[simp] theorem binR_ok (o : Bop) (d e : Dat) : binR o (.ok d) (.ok e) = binD o d e := nrfl rfl
@[simp] theorem binR_x (o : Bop) (c : Str) (x : Option Dat) (s : Res Dat) : binR o (.exc c x) s = .exc c x := nrfl rfl
@[simp] theorem binR_y (o : Bop) (d : Dat) (c : Str) (x : Option Dat) : binR o (.ok d) (.exc c x) = .exc c x := nrfl rfl
def negR (r : Res Dat) : Res Dat := r >>= fun d => match d with
    | .int i => .ok (.int (-i))
    | _ => .bad
@[simp] theorem negR_ok (i : Int) : negR (.ok (.int i)) = .ok (.int (-i)) := nrfl rfl
def blR (r : Res Bool) : Res Dat := r >>= fun r => .ok (.bool r)
@[simp] theorem blR_ok (b : Bool) : blR (.ok b) = .ok (.bool b) := nrfl rfl
def cmpR (o : Cop) (r s : Res Dat) : Res Dat := r >>= fun d => s >>= fun e => blR (cmpD o d e)
@[simp] theorem cmpR_ok (o : Cop) (d e : Dat) : cmpR o (.ok d) (.ok e) = blR (cmpD o d e) := nrfl rfl
@[simp] theorem cmpR_x (o : Cop) (c : Str) (x : Option Dat) (s : Res Dat) : cmpR o (.exc c x) s = .exc c x := nrfl rfl
@[simp] theorem cmpR_y (o : Cop) (d : Dat) (c : Str) (x : Option Dat) : cmpR o (.ok d) (.exc c x) = .exc c x := nrfl rfl
def chnB (o : Res Bool) (p : Cop) (e : Dat) (t : Res Dat) : Res Dat := o >>= fun r => match r with
    | true => t >>= fun f => blR (cmpD p e f)
    | false => .ok (.bool false)
@[simp] theorem chnB_t (p : Cop) (e f : Dat) : chnB (.ok true) p e (.ok f) = blR (cmpD p e f) := nrfl rfl
@[simp] theorem chnB_f (p : Cop) (e : Dat) (t : Res Dat) : chnB (.ok false) p e t = .ok (.bool false) := nrfl rfl
def chnR (o p : Cop) (r s t : Res Dat) : Res Dat := r >>= fun d => s >>= fun e => chnB (cmpD o d e) p e t
@[simp] theorem chnR_ok (o p : Cop) (d e : Dat) (t : Res Dat) : chnR o p (.ok d) (.ok e) t = chnB (cmpD o d e) p e t := nrfl rfl
def tR (r : Res Dat) : Res Bool := r >>= fun d => truD d
@[simp] theorem tR_ok (d : Dat) : tR (.ok d) = truD d := nrfl rfl
@[simp] theorem tR_x (c : Str) (x : Option Dat) : tR (.exc c x) = .exc c x := nrfl rfl
def ifR (c : Res Bool) (a b : Res Dat) : Res Dat := c >>= fun r => match r with
    | true => a
    | false => b
@[simp] theorem ifR_t (a b : Res Dat) : ifR (.ok true) a b = a := nrfl rfl
@[simp] theorem ifR_f (a b : Res Dat) : ifR (.ok false) a b = b := nrfl rfl
@[simp] theorem ifR_x (c : Str) (x : Option Dat) (a b : Res Dat) : ifR (.exc c x) a b = .exc c x := nrfl rfl
def andR (r s : Res Dat) : Res Dat := r >>= fun d => ifR (truD d) s (.ok d)
@[simp] theorem andR_ok (d : Dat) (s : Res Dat) : andR (.ok d) s = ifR (truD d) s (.ok d) := nrfl rfl
@[simp] theorem andR_x (c : Str) (x : Option Dat) (s : Res Dat) : andR (.exc c x) s = .exc c x := nrfl rfl
def orR (r s : Res Dat) : Res Dat := r >>= fun d => ifR (truD d) (.ok d) s
@[simp] theorem orR_ok (d : Dat) (s : Res Dat) : orR (.ok d) s = ifR (truD d) (.ok d) s := nrfl rfl
@[simp] theorem orR_x (c : Str) (x : Option Dat) (s : Res Dat) : orR (.exc c x) s = .exc c x := nrfl rfl
def notR (r : Res Bool) : Res Dat := r >>= fun r => .ok (.bool (!r))
@[simp] theorem notR_ok (b : Bool) : notR (.ok b) = .ok (.bool (!b)) := nrfl rfl
@[simp] theorem notR_x (c : Str) (x : Option Dat) : notR (.exc c x) = .exc c x := nrfl rfl
def ixR (r s : Res Dat) : Res Dat := r >>= fun d => s >>= fun e => ixD d e
@[simp] theorem ixR_ok (d e : Dat) : ixR (.ok d) (.ok e) = ixD d e := nrfl rfl
def slR (r : Res Dat) (lo hi : Res (Option Int)) : Res Dat := r >>= fun d => lo >>= fun l => hi >>= fun h => slD d l h
@[simp] theorem slR_ok (d : Dat) (l h : Option Int) : slR (.ok d) (.ok l) (.ok h) = slD d l h := nrfl rfl
def tupR (r : Res (List Dat)) : Res Dat := r >>= fun ds => if ds.length ≤ 1000000 then .ok (.tuple ds) else .bad
@[simp] theorem tupR_ok (ds : List Dat) : tupR (.ok ds) = if ds.length ≤ 1000000 then .ok (.tuple ds) else .bad := nrfl rfl
@[simp] theorem tupR_x (c : Str) (x : Option Dat) : tupR (.exc c x) = .exc c x := nrfl rfl
def lstR (r : Res (List Dat)) : Res Dat := r >>= fun ds => if ds.length ≤ 1000000 then .ok (.list ds) else .bad
@[simp] theorem lstR_ok (ds : List Dat) : lstR (.ok ds) = if ds.length ≤ 1000000 then .ok (.list ds) else .bad := nrfl rfl
@[simp] theorem lstR_x (c : Str) (x : Option Dat) : lstR (.exc c x) = .exc c x := nrfl rfl
def calR (F : List Dat → Res Dat) (r : Res (List Dat)) : Res Dat := r >>= fun ds => F ds
@[simp] theorem calR_ok (F : List Dat → Res Dat) (ds : List Dat) : calR F (.ok ds) = F ds := nrfl rfl
def calkR (F : List Dat → Res Dat) (r : Res (List Dat)) (s : Res Dat) : Res Dat := r >>= fun ds => s >>= fun d => F (ds ++ [d])
@[simp] theorem calkR_ok (F : List Dat → Res Dat) (ds : List Dat) (d : Dat) : calkR F (.ok ds) (.ok d) = F (ds ++ [d]) := nrfl rfl
@[simp] theorem calR_x (F : List Dat → Res Dat) (c : Str) (x : Option Dat) : calR F (.exc c x) = .exc c x := nrfl rfl
def biR (f : Bi) (r : Res (List Dat)) : Res Dat := r >>= fun ds => biD f ds
@[simp] theorem biR_ok (f : Bi) (ds : List Dat) : biR f (.ok ds) = biD f ds := nrfl rfl
@[simp] theorem biR_x (f : Bi) (c : Str) (x : Option Dat) : biR f (.exc c x) = .exc c x := nrfl rfl
def isiR (t : Ty) (r : Res Dat) : Res Dat := r >>= fun d => blR (isiD t d)
@[simp] theorem isiR_ok (t : Ty) (d : Dat) : isiR t (.ok d) = blR (isiD t d) := nrfl rfl
def m0R (m : M0) (r : Res Dat) : Res Dat := r >>= fun d => m0D m d
@[simp] theorem m0R_ok (m : M0) (d : Dat) : m0R m (.ok d) = m0D m d := nrfl rfl
def m1R (m : M1) (r s : Res Dat) : Res Dat := r >>= fun d => strD d >>= fun x => s >>= fun e => m1D m (.str x) e
@[simp] theorem m1R_ok (m : M1) (x : Str) (e : Dat) : m1R m (.ok (.str x)) (.ok e) = m1D m (.str x) e := nrfl rfl
def varR (s : Sl) : Res Dat := match s with
    | .fz d => .ok d
    | _ => .bad
@[simp] theorem varR_fz (d : Dat) : varR (.fz d) = .ok d := nrfl rfl
def tvR (s : Sl) : Res Dat := match s with
    | .fz (.list ds) => .ok (.list ds)
    | .ow ds => .ok (.list ds)
    | .ln ds => .ok (.list ds)
    | _ => .bad
@[simp] theorem tvR_fz (ds : List Dat) : tvR (.fz (.list ds)) = .ok (.list ds) := nrfl rfl
@[simp] theorem tvR_ow (ds : List Dat) : tvR (.ow ds) = .ok (.list ds) := nrfl rfl
@[simp] theorem tvR_ln (ds : List Dat) : tvR (.ln ds) = .ok (.list ds) := nrfl rfl
def consR (r : Res Dat) (s : Res (List Dat)) : Res (List Dat) := r >>= fun d => s >>= fun ds => .ok (d :: ds)
@[simp] theorem consR_ok (d : Dat) (ds : List Dat) : consR (.ok d) (.ok ds) = .ok (d :: ds) := nrfl rfl
@[simp] theorem consR_x (c : Str) (x : Option Dat) (s : Res (List Dat)) : consR (.exc c x) s = .exc c x := nrfl rfl
@[simp] theorem consR_y (d : Dat) (c : Str) (x : Option Dat) : consR (.ok d) (.exc c x) = .exc c x := nrfl rfl
section
variable (P : Pg) (ρ : En) (a b c : E) (es : Es)
@[simp] theorem ev_var (i : Nat) : ev P (.var i) ρ = varR (getS ρ i) := by simp only [ev]; rfl
@[simp] theorem ev_tv (i : Nat) : ev P (.tv i) ρ = tvR (getS ρ i) := by simp only [ev]; rfl
@[simp] theorem ev_non : ev P .non ρ = .ok .none := by simp only [ev]
@[simp] theorem ev_bl (x : Bool) : ev P (.bl x) ρ = .ok (.bool x) := by simp only [ev]
@[simp] theorem ev_int (i : Int) : ev P (.int i) ρ = .ok (.int i) := by simp only [ev]
@[simp] theorem ev_str (x : Str) : ev P (.str x) ρ = .ok (.str x) := by simp only [ev]
@[simp] theorem ev_con (k : Nat) : ev P (.con k) ρ = .ok (P.C k) := by simp only [ev]
@[simp] theorem ev_bin (o : Bop) : ev P (.bin o a b) ρ = binR o (ev P a ρ) (ev P b ρ) := by simp only [ev]; rfl
@[simp] theorem ev_neg : ev P (.neg a) ρ = negR (ev P a ρ) := by simp only [ev]; rfl
@[simp] theorem ev_cmp (o : Cop) : ev P (.cmp o a b) ρ = cmpR o (ev P a ρ) (ev P b ρ) := by simp only [ev]; rfl
@[simp] theorem ev_chn (o p : Cop) : ev P (.chn o p a b c) ρ = chnR o p (ev P a ρ) (ev P b ρ) (ev P c ρ) := by simp only [ev]; rfl
@[simp] theorem ev_and : ev P (.and a b) ρ = andR (ev P a ρ) (ev P b ρ) := by simp only [ev]; rfl
@[simp] theorem ev_or : ev P (.or a b) ρ = orR (ev P a ρ) (ev P b ρ) := by simp only [ev]; rfl
@[simp] theorem ev_not : ev P (.not a) ρ = notR (tR (ev P a ρ)) := by
  simp only [ev]
  cases ev P a ρ <;> rfl
@[simp] theorem ev_ife : ev P (.ife c a b) ρ = ifR (tR (ev P c ρ)) (ev P a ρ) (ev P b ρ) := by
  simp only [ev]
  cases ev P c ρ <;> rfl
@[simp] theorem ev_ix : ev P (.ix a b) ρ = ixR (ev P a ρ) (ev P b ρ) := by simp only [ev]; rfl
@[simp] theorem ev_sl : ev P (.sl a b c) ρ = slR (ev P a ρ) (optE b (ev P b ρ)) (optE c (ev P c ρ)) := by simp only [ev]; rfl
@[simp] theorem ev_tup : ev P (.tup es) ρ = tupR (evs P es ρ) := by simp only [ev]; rfl
@[simp] theorem ev_lst : ev P (.lst es) ρ = lstR (evs P es ρ) := by simp only [ev]; rfl
@[simp] theorem ev_calk (k : Nat) (w : Str) (e : E) : ev P (.calk k es w e) ρ = calkR (P.F k) (evs P es ρ) (ev P e ρ) := by simp only [ev]; rfl
@[simp] theorem ev_cal (k : Nat) : ev P (.cal k es) ρ = calR (P.F k) (evs P es ρ) := by simp only [ev]; rfl
@[simp] theorem ev_bi (f : Bi) : ev P (.bi f es) ρ = biR f (evs P es ρ) := by simp only [ev]; rfl
@[simp] theorem ev_isi (t : Ty) : ev P (.isi t a) ρ = isiR t (ev P a ρ) := by simp only [ev]; rfl
@[simp] theorem ev_nrw (c : Str) : ev P (.nrw c a) ρ = ev P a ρ := by simp only [ev]
@[simp] theorem ev_m0 (m : M0) : ev P (.m0 m a) ρ = m0R m (ev P a ρ) := by simp only [ev]; rfl
@[simp] theorem ev_m1 (m : M1) : ev P (.m1 m a b) ρ = m1R m (ev P a ρ) (ev P b ρ) := by simp only [ev]; rfl
@[simp] theorem evs_nil : evs P .nil ρ = .ok [] := by simp only [evs]
@[simp] theorem evs_cons : evs P (.cons a es) ρ = consR (ev P a ρ) (evs P es ρ) := by simp only [evs]; rfl
end
def itR (r : Res Dat) : Res (List Dat) := r >>= fun d => itemsD d
@[simp] theorem itR_ok (d : Dat) : itR (.ok d) = itemsD d := nrfl rfl
def r1R (r : Res Dat) : Res (List Dat) := r >>= fun d => match d with
    | .int n => if small62 n then .ok (rngL 0 n.toNat) else .bad
    | _ => .bad
theorem small_of {a : Int} (h : -(2 ^ 62) ≤ a) (h' : a < 2 ^ 62) : small62 a = true := decide_eq_true ⟨h, h'⟩
theorem r1R_int {n : Int} (h : -1000000000 ≤ n) (h' : n ≤ 1000000000) : r1R (.ok (.int n)) = .ok ((List.range n.toNat).map fun i : Nat => PyData.int (i : Int)) := by
  have e : r1R (.ok (.int n)) = .ok (rngL 0 n.toNat) := if_pos (small_of (by omega) (by omega))
  rw [e]
  simp only [rngL, Int.zero_add]
theorem r1R_nat {n : Nat} (h : n ≤ 1000000000) : r1R (.ok (.int (n : Int))) = .ok ((List.range n).map fun i : Nat => PyData.int (i : Int)) := by
  have := r1R_int (n := (n : Int)) (by omega) (by omega)
  simpa using this
theorem r1R_nat1 {n : Nat} (h : n ≤ 1000000) : r1R (.ok (.int ((n : Int) + 1))) = .ok ((List.range (n + 1)).map fun i : Nat => PyData.int (i : Int)) := r1R_nat (n := n + 1) (by omega)
def r2R (r s : Res Dat) : Res (List Dat) := r >>= fun d => s >>= fun e => match d, e with
    | .int m, .int n => if small62 m && small62 n then .ok (rngL m (n - m).toNat) else .bad
    | _, _ => .bad
theorem r2R_int {m n : Int} (h : -1000000000 ≤ m) (h' : m ≤ 1000000000) (k : -1000000000 ≤ n) (k' : n ≤ 1000000000) : r2R (.ok (.int m)) (.ok (.int n)) = .ok ((List.range (n - m).toNat).map fun i : Nat => PyData.int (m + (i : Int))) := by
  have e : r2R (.ok (.int m)) (.ok (.int n)) = .ok (rngL m (n - m).toNat) := if_pos (by rw [small_of (by omega) (by omega), small_of (by omega) (by omega)]; rfl)
  rw [e]
  rfl
def lnR (s : Sl) : Res (List Dat) := match s with
    | .ln ds => .ok ds
    | _ => .bad
def owR (s : Sl) : Res (List Dat) := match s with
    | .ow ds => .ok ds
    | _ => .bad
@[simp] theorem owR_ow (ds : List Dat) : owR (.ow ds) = .ok ds := nrfl rfl
@[simp] theorem lnR_ln (ds : List Dat) : lnR (.ln ds) = .ok ds := nrfl rfl
section
variable (P : Pg) (ρ : En) (a b : E)
@[simp] theorem evI_seq : evI P (.seq a) ρ = itR (ev P a ρ) := by simp only [evI]; rfl
@[simp] theorem evI_own (i : Nat) : evI P (.own i) ρ = owR (getS ρ i) := by simp only [evI]; rfl
@[simp] theorem evI_ln (i : Nat) : evI P (.lent i) ρ = lnR (getS ρ i) := by simp only [evI]; rfl
@[simp] theorem evI_r1 : evI P (.rng1 a) ρ = r1R (ev P a ρ) := by simp only [evI]; rfl
@[simp] theorem evI_r2 : evI P (.rng2 a b) ρ = r2R (ev P a ρ) (ev P b ρ) := by simp only [evI]; rfl
end
/-! statements -/
def setR (i : Nat) (r : Res Dat) (ρ : En) : Out := Out.of r fun d => .nx (ρ.set i (.fz d))
@[simp] theorem setR_ok (i : Nat) (d : Dat) (ρ : En) : setR i (.ok d) ρ = .nx (ρ.set i (.fz d)) := nrfl rfl
@[simp] theorem setR_x (i : Nat) (c : Str) (x : Option Dat) (ρ : En) : setR i (.exc c x) ρ = .exc c x := nrfl rfl
def setOR (i : Nat) (r : Res Dat) (ρ : En) : Out := Out.of r fun d => match d with
    | .list ds => .nx (ρ.set i (.ow ds))
    | _ => .bad
@[simp] theorem setOR_ok (i : Nat) (ds : List Dat) (ρ : En) : setOR i (.ok (.list ds)) ρ = .nx (ρ.set i (.ow ds)) := nrfl rfl
@[simp] theorem setOR_x (i : Nat) (c : Str) (x : Option Dat) (ρ : En) : setOR i (.exc c x) ρ = .exc c x := nrfl rfl
def enR (r : Res En) : Out := Out.of r .nx
@[simp] theorem enR_ok (ρ : En) : enR (.ok ρ) = .nx ρ := nrfl rfl
def tupS (is : List Nat) (r : Res Dat) (ρ : En) : Out := Out.of r fun d => enR (setT (.tp is) d ρ)
@[simp] theorem tupS_ok (is : List Nat) (d : Dat) (ρ : En) : tupS is (.ok d) ρ = enR (setT (.tp is) d ρ) := nrfl rfl
@[simp] theorem tupS_x (is : List Nat) (c : Str) (x : Option Dat) (ρ : En) : tupS is (.exc c x) ρ = .exc c x := nrfl rfl
def appR (i : Nat) (s : Sl) (r : Res Dat) (ρ : En) : Out := match s with
    | .ow ds => Out.of r fun d => if ds.length < 1000000 then .nx (ρ.set i (.ow (ds ++ [d]))) else .bad
    | _ => .bad
@[simp] theorem appR_ok (i : Nat) (ds : List Dat) (d : Dat) (ρ : En) : appR i (.ow ds) (.ok d) ρ = if ds.length < 1000000 then .nx (ρ.set i (.ow (ds ++ [d]))) else .bad := nrfl rfl
@[simp] theorem appR_x (i : Nat) (ds : List Dat) (c : Str) (x : Option Dat) (ρ : En) : appR i (.ow ds) (.exc c x) ρ = .exc c x := nrfl rfl
def revR (i : Nat) (s : Sl) (ρ : En) : Out := match s with
    | .ow ds => .nx (ρ.set i (.ow ds.reverse))
    | _ => .bad
@[simp] theorem revR_ok (i : Nat) (ds : List Dat) (ρ : En) : revR i (.ow ds) ρ = .nx (ρ.set i (.ow ds.reverse)) := nrfl rfl
def extR (i : Nat) (s : Sl) (r : Res Dat) (ρ : En) : Out := match s with
    | .ow ds => Out.of r fun d => match d with
      | .list es => if ds.length + es.length < 1000000 then .nx (ρ.set i (.ow (ds ++ es))) else .bad
      | _ => .bad
    | _ => .bad
@[simp] theorem extR_ok (i : Nat) (ds es : List Dat) (ρ : En) : extR i (.ow ds) (.ok (.list es)) ρ = if ds.length + es.length < 1000000 then .nx (ρ.set i (.ow (ds ++ es))) else .bad := nrfl rfl
@[simp] theorem extR_x (i : Nat) (ds : List Dat) (c : Str) (x : Option Dat) (ρ : En) : extR i (.ow ds) (.exc c x) ρ = .exc c x := nrfl rfl
def ifO (c : Res Bool) (P : Pg) (a b : Ss) (ρ : En) : Out := Out.of c fun r => match r with
    | true => exSs P a ρ
    | false => exSs P b ρ
@[simp] theorem ifO_t (P : Pg) (a b : Ss) (ρ : En) : ifO (.ok true) P a b ρ = exSs P a ρ := nrfl rfl
@[simp] theorem ifO_f (P : Pg) (a b : Ss) (ρ : En) : ifO (.ok false) P a b ρ = exSs P b ρ := nrfl rfl
@[simp] theorem ifO_x (P : Pg) (c : Str) (x : Option Dat) (a b : Ss) (ρ : En) : ifO (.exc c x) P a b ρ = .exc c x := nrfl rfl
def retR (r : Res Dat) : Out := Out.of r .ret
@[simp] theorem retR_ok (d : Dat) : retR (.ok d) = .ret d := nrfl rfl
@[simp] theorem retR_x (c : Str) (x : Option Dat) : retR (.exc c x) = .exc c x := nrfl rfl
def rtvR (s : Sl) : Out := match s with
    | .ow ds => .ret (.list ds)
    | _ => .bad
@[simp] theorem rtvR_ok (ds : List Dat) : rtvR (.ow ds) = .ret (.list ds) := nrfl rfl
def expR (r : Res Dat) (ρ : En) : Out := Out.of r fun _ => .nx ρ
@[simp] theorem expR_ok (d : Dat) (ρ : En) : expR (.ok d) ρ = .nx ρ := nrfl rfl
@[simp] theorem expR_x (c : Str) (x : Option Dat) (ρ : En) : expR (.exc c x) ρ = .exc c x := nrfl rfl
@[simp] theorem keepO_some (i : Nat) (ρ : En) (d : Dat) : keepO (some i) ρ d = .nx (ρ.set i (.fz d)) := nrfl rfl
@[simp] theorem keepO_none (ρ : En) (d : Dat) : keepO none ρ d = .nx ρ := nrfl rfl
@[simp] theorem tryO_ok (m : Str → Option Bool) (i : Option Nat) (j : Nat) (ρ : En) (h : Res Dat) (d : Dat) : tryO m i j ρ h (.ok d) = keepO i ρ d := nrfl rfl
/-- what an exception in a try comes to -/
def metO (b : Option Bool) (j : Nat) (ρ : En) (h : Res Dat) (c : Str) (x : Option Dat) : Out := match b with
  | some true => Out.of h fun d => .nx (ρ.set j (.fz d))
  | some false => .exc c x
  | none => .bad
@[simp] theorem tryO_x (m : Str → Option Bool) (i : Option Nat) (j : Nat) (ρ : En) (h : Res Dat) (c : Str) (x : Option Dat) : tryO m i j ρ h (.exc c x) = metO (m c) j ρ h c x := by
  cases h : m c with
  | none => simp only [tryO, metO, h]
  | some b => cases b <;> simp only [tryO, metO, h]
@[simp] theorem metO_t (j : Nat) (ρ : En) (d : Dat) (c : Str) (x : Option Dat) : metO (some true) j ρ (.ok d) c x = .nx (ρ.set j (.fz d)) := nrfl rfl
@[simp] theorem metO_f (j : Nat) (ρ : En) (h : Res Dat) (c : Str) (x : Option Dat) : metO (some false) j ρ h c x = .exc c x := nrfl rfl
/-- what an exception comes to that is asked for its classes -/
def metI (b : Option Bool) (o1 o2 : Option (List Bool)) (i j : Nat) (ρ : En) (c : Str) : Out := match b with
  | some true => match o1, o2 with
    | some b1, some b2 => if i < ρ.length ∧ j < ρ.length ∧ i ≠ j ∧ b1.length + b2.length ≤ 1000 then .nx ((ρ.set j (.fz (.tuple ((b1 ++ b2).map .bool)))).set i .un) else .bad
    | _, _ => .bad
  | some false => .exc c none
  | none => .bad
@[simp] theorem tryIO_ok (m : Str → Option Bool) (f : Str → Str → Option Bool) (i j : Nat) (n1 n2 : List Str) (ρ : En) (d : Dat) : tryIO m f i j n1 n2 ρ (.ok d) = .nx ρ := nrfl rfl
@[simp] theorem tryIO_x (m : Str → Option Bool) (f : Str → Str → Option Bool) (i j : Nat) (n1 n2 : List Str) (ρ : En) (c : Str) : tryIO m f i j n1 n2 ρ (.exc c none) = metI (m c) (isAll (f c) n1) (isAll (f c) n2) i j ρ c := by
  cases h : m c with
  | none => simp only [tryIO, metI, h]
  | some b =>
    cases b with
    | false => simp only [tryIO, metI, h]
    | true => cases h1 : isAll (f c) n1 <;> cases h2 : isAll (f c) n2 <;> simp only [tryIO, metI, h, h1, h2]
@[simp] theorem metI_f (o1 o2 : Option (List Bool)) (i j : Nat) (ρ : En) (c : Str) : metI (some false) o1 o2 i j ρ c = .exc c none := nrfl rfl
@[simp] theorem metI_t (b1 b2 : List Bool) (i j : Nat) (ρ : En) (c : Str) : metI (some true) (some b1) (some b2) i j ρ c = if i < ρ.length ∧ j < ρ.length ∧ i ≠ j ∧ b1.length + b2.length ≤ 1000 then .nx ((ρ.set j (.fz (.tuple ((b1 ++ b2).map .bool)))).set i .un) else .bad := nrfl rfl
/-- what an exception in a try that gives another comes to -/
def metX (b : Option Bool) (d : Str) (s : Sl) (c : Str) (x : Option Dat) : Out := match b with
  | some true => match s with
    | .fz v => .exc d (some v)
    | _ => .bad
  | some false => .exc c x
  | none => .bad
@[simp] theorem tryXO_ok (m : Str → Option Bool) (d : Str) (s : Sl) (v : Dat) : tryXO m d s (.ok v) = .ret v := nrfl rfl
@[simp] theorem tryXO_x (m : Str → Option Bool) (d : Str) (s : Sl) (c : Str) (x : Option Dat) : tryXO m d s (.exc c x) = metX (m c) d s c x := by
  cases h : m c with
  | none => simp only [tryXO, metX, h]
  | some b => cases b <;> cases s <;> simp only [tryXO, metX, h]
@[simp] theorem metX_t (d : Str) (v : Dat) (c : Str) (x : Option Dat) : metX (some true) d (.fz v) c x = .exc d (some v) := nrfl rfl
@[simp] theorem metX_f (d : Str) (s : Sl) (c : Str) (x : Option Dat) : metX (some false) d s c x = .exc c x := nrfl rfl
/-- what an exception comes to that is asked for its row and its classes -/
def metR (b : Option Bool) (o : Option (List Bool)) (i j : Nat) (ρ : En) (c : Str) (d : Dat) : Out := match b with
  | some true => match o with
    | some bs => if i < ρ.length ∧ j < ρ.length ∧ i ≠ j ∧ bs.length ≤ 1000 then .nx ((ρ.set j (.fz (.tuple (d :: bs.map .bool)))).set i .un) else .bad
    | none => .bad
  | some false => .exc c (some d)
  | none => .bad
@[simp] theorem tryRO_ok (m : Str → Option Bool) (f : Str → Str → Option Bool) (i j : Nat) (ns : List (List Str)) (ρ : En) (d : Dat) : tryRO m f i j ns ρ (.ok d) = .nx ρ := nrfl rfl
@[simp] theorem tryRO_x (m : Str → Option Bool) (f : Str → Str → Option Bool) (i j : Nat) (ns : List (List Str)) (ρ : En) (c : Str) (d : Dat) : tryRO m f i j ns ρ (.exc c (some d)) = metR (m c) (isAll (f c) ns.flatten) i j ρ c d := by
  cases h : m c with
  | none => simp only [tryRO, metR, h]
  | some b =>
    cases b with
    | false => simp only [tryRO, metR, h]
    | true => cases h1 : isAll (f c) ns.flatten <;> simp only [tryRO, metR, h, h1]
@[simp] theorem metR_t (bs : List Bool) (i j : Nat) (ρ : En) (c : Str) (d : Dat) : metR (some true) (some bs) i j ρ c d = if i < ρ.length ∧ j < ρ.length ∧ i ≠ j ∧ bs.length ≤ 1000 then .nx ((ρ.set j (.fz (.tuple (d :: bs.map .bool)))).set i .un) else .bad := nrfl rfl
def raisR (c : Str) (r : Res Dat) : Out := Out.of r fun d => .exc c (some d)
@[simp] theorem raisR_ok (c : Str) (d : Dat) : raisR c (.ok d) = .exc c (some d) := nrfl rfl
def seqO (o : Out) (P : Pg) (r : Ss) : Out := o.thn (exSs P r)
@[simp] theorem seqO_nx (P : Pg) (r : Ss) (ρ : En) : seqO (.nx ρ) P r = exSs P r ρ := nrfl rfl
@[simp] theorem seqO_ct (P : Pg) (r : Ss) (ρ : En) : seqO (.ct ρ) P r = .ct ρ := nrfl rfl
@[simp] theorem seqO_ret (P : Pg) (r : Ss) (d : Dat) : seqO (.ret d) P r = .ret d := nrfl rfl
@[simp] theorem seqO_x (P : Pg) (r : Ss) (c : Str) (x : Option Dat) : seqO (.exc c x) P r = .exc c x := nrfl rfl
def frzO (s : Sl) (P : Pg) (i : Nat) (r : Ss) (ρ : En) : Out := match s with
    | .ow ds => exSs P r (ρ.set i (.fz (.list ds)))
    | _ => .bad
@[simp] theorem frzO_ow (P : Pg) (i : Nat) (r : Ss) (ρ : En) (ds : List Dat) : frzO (.ow ds) P i r ρ = exSs P r (ρ.set i (.fz (.list ds))) := nrfl rfl
def tryBR (r : Res Dat) : Out := match r with
  | .ok d => .ret d
  | _ => .bad
@[simp] theorem tryBR_ok (d : Dat) : tryBR (.ok d) = .ret d := nrfl rfl
/-- a reply's parts -/
def retFR (fl : List Bool) (r : Res (List Dat)) : Out := Out.of r fun ds => if ds.length ≤ 1000000 ∧ freshT fl ds = true then .ret (.tuple ds) else .bad
@[simp] theorem retFR_ok (fl : List Bool) (ds : List Dat) : retFR fl (.ok ds) = if ds.length ≤ 1000000 ∧ freshT fl ds = true then .ret (.tuple ds) else .bad := nrfl rfl
@[simp] theorem retFR_x (fl : List Bool) (c : Str) (x : Option Dat) : retFR fl (.exc c x) = .exc c x := nrfl rfl
@[simp] theorem freshT_nil (fl : List Bool) : freshT fl [] = true := by cases fl <;> rfl
@[simp] theorem freshT_cons (b : Bool) (fl : List Bool) (d : Dat) (ds : List Dat) : freshT (b :: fl) (d :: ds) = ((b || !isLst d) && freshT fl ds) := nrfl rfl
@[simp] theorem isLst_str (x : Str) : isLst (.str x) = false := nrfl rfl
@[simp] theorem isLst_int (x : Int) : isLst (.int x) = false := nrfl rfl
@[simp] theorem isLst_bool (x : Bool) : isLst (.bool x) = false := nrfl rfl
@[simp] theorem isLst_none : isLst .none = false := nrfl rfl
@[simp] theorem isLst_tup (ds : List Dat) : isLst (.tuple ds) = false := nrfl rfl
@[simp] theorem isLst_lst (ds : List Dat) : isLst (.list ds) = true := nrfl rfl
def leaseD (r : Res Dat) (P : Pg) (i : Nat) (d : Dat) (k : Nat) (rest : Ss) (ρ : En) : Out := if (leaseK d k && decide (i < ρ.length)) = true then Out.of r fun _ => exSs P rest (ρ.set i .un) else .bad
@[simp] theorem leaseD_ok (a : Dat) (P : Pg) (i : Nat) (d : Dat) (k : Nat) (rest : Ss) (ρ : En) : leaseD (.ok a) P i d k rest ρ = if (leaseK d k && decide (i < ρ.length)) = true then exSs P rest (ρ.set i .un) else .bad := nrfl rfl
def leaseC (b : Res Bool) (P : Pg) (i : Nat) (d : Dat) (k : Nat) (o : E) (rest : Ss) (ρ : En) : Out := Out.of b fun b => match b with
  | true => leaseD (ev P o (ρ.set i (.fz d))) P i d k rest ρ
  | false => exSs P rest (ρ.set i .un)
@[simp] theorem leaseC_t (P : Pg) (i : Nat) (d : Dat) (k : Nat) (o : E) (rest : Ss) (ρ : En) : leaseC (.ok true) P i d k o rest ρ = leaseD (ev P o (ρ.set i (.fz d))) P i d k rest ρ := nrfl rfl
@[simp] theorem leaseC_f (P : Pg) (i : Nat) (d : Dat) (k : Nat) (o : E) (rest : Ss) (ρ : En) : leaseC (.ok false) P i d k o rest ρ = exSs P rest (ρ.set i .un) := nrfl rfl
def leaseB (b : Res Bool) (P : Pg) (i : Nat) (d : Dat) (r c2 : E) (k : Nat) (o : E) (rest : Ss) (ρ : En) : Out := Out.of b fun b => match b with
  | true => retR (ev P r (ρ.set i (.fz d)))
  | false => leaseC (tR (ev P c2 (ρ.set i (.fz d)))) P i d k o rest ρ
@[simp] theorem leaseB_t (P : Pg) (i : Nat) (d : Dat) (r c2 : E) (k : Nat) (o : E) (rest : Ss) (ρ : En) : leaseB (.ok true) P i d r c2 k o rest ρ = retR (ev P r (ρ.set i (.fz d))) := nrfl rfl
@[simp] theorem leaseB_f (P : Pg) (i : Nat) (d : Dat) (r c2 : E) (k : Nat) (o : E) (rest : Ss) (ρ : En) : leaseB (.ok false) P i d r c2 k o rest ρ = leaseC (tR (ev P c2 (ρ.set i (.fz d)))) P i d k o rest ρ := nrfl rfl
def leaseA (r0 : Res Dat) (P : Pg) (i : Nat) (c1 r c2 : E) (k : Nat) (o : E) (rest : Ss) (ρ : En) : Out := Out.of r0 fun d => leaseB (tR (ev P c1 (ρ.set i (.fz d)))) P i d r c2 k o rest ρ
@[simp] theorem leaseA_ok (d : Dat) (P : Pg) (i : Nat) (c1 r c2 : E) (k : Nat) (o : E) (rest : Ss) (ρ : En) : leaseA (.ok d) P i c1 r c2 k o rest ρ = leaseB (tR (ev P c1 (ρ.set i (.fz d)))) P i d r c2 k o rest ρ := nrfl rfl
def lowR (r : Res (List Dat)) (s : Sl) : Out := match s with
    | .ow xs => Out.of r fun ds => if ds.length < 1000000 ∧ freshT [] ds = true then .ret (.tuple (ds ++ [.list xs])) else .bad
    | _ => .bad
@[simp] theorem lowR_ok (ds xs : List Dat) : lowR (.ok ds) (.ow xs) = if ds.length < 1000000 ∧ freshT [] ds = true then .ret (.tuple (ds ++ [.list xs])) else .bad := nrfl rfl
@[simp] theorem freshT_cons0 (d : Dat) (ds : List Dat) : freshT [] (d :: ds) = (!isLst d && freshT [] ds) := nrfl rfl
@[simp] theorem oGet_some (e : E) : (some e).getD E.non = e := nrfl rfl
@[simp] theorem oGet_none : (none : Option E).getD E.non = E.non := nrfl rfl
section
variable (P : Pg) (ρ : En) (e c : E) (i : Nat)
@[simp] theorem exS_retF (fl : List Bool) (es : Es) : exS P (.retF fl es) ρ = retFR fl (evs P es ρ) := by simp only [exS]; rfl
@[simp] theorem exS_retC : exS P (.retC e) ρ = retR (ev P e ρ) := by simp only [exS]; rfl
@[simp] theorem exS_retL (es : Es) : exS P (.retL es i) ρ = lowR (evs P es ρ) (getS ρ i) := by simp only [exS]; rfl
@[simp] theorem exSs_lease (c1 r c2 : E) (k : Nat) (o : Option E) (rest : Ss) : exSs P (.lease i e c1 r c2 k o rest) ρ = leaseA (ev P e ρ) P i c1 r c2 k (o.getD .non) rest ρ := by simp only [exSs]; rfl
@[simp] theorem exS_set : exS P (.set i e) ρ = setR i (ev P e ρ) ρ := by simp only [exS]; rfl
@[simp] theorem exS_setO : exS P (.setO i e) ρ = setOR i (ev P e ρ) ρ := by simp only [exS]; rfl
@[simp] theorem exS_tup (is : List Nat) : exS P (.tup is e) ρ = tupS is (ev P e ρ) ρ := by simp only [exS]; rfl
@[simp] theorem exS_app : exS P (.app i e) ρ = appR i (getS ρ i) (ev P e ρ) ρ := by simp only [exS]; rfl
@[simp] theorem exS_rev : exS P (.rev i) ρ = revR i (getS ρ i) ρ := by simp only [exS]; rfl
@[simp] theorem exS_ext : exS P (.ext i e) ρ = extR i (getS ρ i) (ev P e ρ) ρ := by simp only [exS]; rfl
@[simp] theorem exS_ifs (a b : Ss) : exS P (.ifs c a b) ρ = ifO (tR (ev P c ρ)) P a b ρ := by simp only [exS]; rfl
@[simp] theorem exS_ret : exS P (.ret e) ρ = retR (ev P e ρ) := by simp only [exS]; rfl
@[simp] theorem exS_retO : exS P (.retO e) ρ = retR (ev P e ρ) := by simp only [exS]; rfl
@[simp] theorem exS_retV : exS P (.retV i) ρ = rtvR (getS ρ i) := by simp only [exS]; rfl
@[simp] theorem exS_retN : exS P .retN ρ = .ret .none := by simp only [exS]
@[simp] theorem exS_expr : exS P (.expr e) ρ = expR (ev P e ρ) ρ := by simp only [exS]; rfl
@[simp] theorem exS_pass : exS P .pass ρ = .nx ρ := by simp only [exS]
@[simp] theorem exS_cont : exS P .cont ρ = .ct ρ := by simp only [exS]
@[simp] theorem exS_tryB (c : Str) : exS P (.tryB e c) ρ = tryBR (ev P e ρ) := by simp only [exS]; rfl
@[simp] theorem exS_raisX (c : Str) : exS P (.raisX c e) ρ = raisR c (ev P e ρ) := by simp only [exS]; rfl
@[simp] theorem exS_tryX (c d : Str) : exS P (.tryX e c d i) ρ = tryXO (fun c' => P.X c' c) d (getS ρ i) (ev P e ρ) := by simp only [exS]
@[simp] theorem exS_tryR (c : Str) (j : Nat) (ns : List (List Str)) : exS P (.tryR e c i j ns) ρ = tryRO (fun c' => P.X c' c) P.I i j ns ρ (ev P e ρ) := by simp only [exS]
@[simp] theorem exS_rais (c : Str) : exS P (.rais c) ρ = .exc c none := by simp only [exS]
@[simp] theorem exS_tryI (c : Str) (i j : Nat) (n1 n2 : List Str) : exS P (.tryI e c i j n1 n2) ρ = tryIO (fun c' => P.X c' c) P.I i j n1 n2 ρ (ev P e ρ) := by simp only [exS]
@[simp] theorem exS_tryE (j : Option Nat) (c : Str) (k : Nat) (h : E) : exS P (.tryE j e c k h) ρ = tryO (fun c' => P.X c' c) j k ρ (ev P h ρ) (ev P e ρ) := by simp only [exS]
@[simp] theorem exSs_nil : exSs P .nil ρ = .nx ρ := by simp only [exSs]
@[simp] theorem exSs_cons (s : S) (r : Ss) : exSs P (.cons s r) ρ = seqO (exS P s ρ) P r := by simp only [exSs]; rfl
@[simp] theorem exSs_frz (r : Ss) : exSs P (.frz i r) ρ = frzO (getS ρ i) P i r ρ := by simp only [exSs]; rfl
end
def runO (fr : Bool) (o : Out) : Res Dat := match o with
  | .ret d => .ok d
  | .nx _ => if fr then .bad else .ok .none
  | .exc c x => .exc c x
  | _ => .bad
@[simp] theorem runO_ret (fr : Bool) (d : Dat) : runO fr (.ret d) = .ok d := nrfl rfl
@[simp] theorem runO_nx (ρ : En) : runO false (.nx ρ) = .ok .none := nrfl rfl
@[simp] theorem runO_x (fr : Bool) (c : Str) (x : Option Dat) : runO fr (.exc c x) = .exc c x := nrfl rfl
@[simp] theorem runF_eq (P : Pg) (n : Nat) (ws : List Bool) (fr : Bool) (body : Ss) (ds : List Dat) : runF P n ws fr body ds = runO fr (exSs P body (ins ws ds ++ List.replicate (n - ds.length) .un)) := nrfl rfl
@[simp] theorem getS_zero (s : Sl) (ρ : En) : getS (s :: ρ) 0 = s := nrfl rfl
@[simp] theorem getS_succ (s : Sl) (ρ : En) (i : Nat) : getS (s :: ρ) (i + 1) = getS ρ i := nrfl rfl
@[simp] theorem bin_add (a b : Int) : binD .add (.int a) (.int b) = .ok (.int (a + b)) := nrfl rfl
@[simp] theorem bin_sub (a b : Int) : binD .sub (.int a) (.int b) = .ok (.int (a - b)) := nrfl rfl
theorem bin_mul (a b : Int) (h : -(2 ^ 64) < b ∧ b < 2 ^ 64) : binD .mul (.int a) (.int b) = .ok (.int (a * b)) := if_pos (.inr h)
theorem bin_mul' (a b : Int) (h : -(2 ^ 64) < a ∧ a < 2 ^ 64) : binD .mul (.int a) (.int b) = .ok (.int (a * b)) := if_pos (.inl h)
theorem bin_mod (a b : Int) (h : 0 < b) : binD .mod (.int a) (.int b) = .ok (.int (a % b)) := by
  have e : b ≠ 0 := by omega
  simp only [binD, if_pos e]
  rw [Int.fmod_eq_emod_of_nonneg _ (by omega)]
theorem bin_div (a b : Int) (h : 0 < b) (h' : b < 1073741824) : binD .div (.int a) (.int b) = .ok (.int (a / b)) := by
  have e : b ≠ 0 ∧ b.natAbs < 1073741824 := by omega
  simp only [binD, if_pos e]
  rw [Int.fdiv_eq_ediv_of_nonneg _ (by omega)]
theorem bin_cat (a b : Str) (h : a.length + b.length ≤ 1000000) : binD .add (.str a) (.str b) = .ok (.str (a ++ b)) := if_pos h
theorem bin_tup (a b : List Dat) (h : a.length + b.length ≤ 1000000) : binD .add (.tuple a) (.tuple b) = .ok (.tuple (a ++ b)) := if_pos h
theorem bin_lst (a b : List Dat) (h : a.length + b.length ≤ 1000000) : binD .add (.list a) (.list b) = .ok (.list (a ++ b)) := if_pos h
@[simp] theorem cmp_lt (a b : Int) : cmpD .lt (.int a) (.int b) = .ok (decide (a < b)) := nrfl rfl
@[simp] theorem cmp_le (a b : Int) : cmpD .le (.int a) (.int b) = .ok (decide (a ≤ b)) := nrfl rfl
@[simp] theorem cmp_gt (a b : Int) : cmpD .gt (.int a) (.int b) = .ok (decide (b < a)) := nrfl rfl
@[simp] theorem cmp_ge (a b : Int) : cmpD .ge (.int a) (.int b) = .ok (decide (b ≤ a)) := nrfl rfl
@[simp] theorem shOk_int (a : Int) : shOk (.int a) = true := nrfl rfl
@[simp] theorem shOk_str (a : Str) : shOk (.str a) = true := nrfl rfl
@[simp] theorem shOk_bool (a : Bool) : shOk (.bool a) = true := nrfl rfl
@[simp] theorem shOk_none : shOk .none = true := nrfl rfl
theorem cmpEq (a b : Dat) (h1 : shOk a = true) (h2 : shOk b = true) : cmpD .eq a b = .ok (PyData.eqv a b) := by simp [cmpD, h1, h2]
theorem cmpNe (a b : Dat) (h1 : shOk a = true) (h2 : shOk b = true) : cmpD .ne a b = .ok (!PyData.eqv a b) := by simp [cmpD, h1, h2]
@[simp] theorem eqv_int (a b : Int) : PyData.eqv (.int a) (.int b) = decide (a = b) := by simp [PyData.eqv]; rfl
@[simp] theorem eqv_str (a b : Str) : PyData.eqv (.str a) (.str b) = decide (a = b) := by simp [PyData.eqv]; rfl
@[simp] theorem eqv_bool (a b : Bool) : PyData.eqv (.bool a) (.bool b) = decide (a = b) := by cases a <;> cases b <;> rfl
@[simp] theorem cmp_eqi (a b : Int) : cmpD .eq (.int a) (.int b) = .ok (decide (a = b)) := by rw [cmpEq _ _ rfl rfl, eqv_int]
@[simp] theorem cmp_nei (a b : Int) : cmpD .ne (.int a) (.int b) = .ok (!decide (a = b)) := by rw [cmpNe _ _ rfl rfl, eqv_int]
@[simp] theorem cmp_eqs (a b : Str) : cmpD .eq (.str a) (.str b) = .ok (decide (a = b)) := by rw [cmpEq _ _ rfl rfl, eqv_str]
@[simp] theorem cmp_nes (a b : Str) : cmpD .ne (.str a) (.str b) = .ok (!decide (a = b)) := by rw [cmpNe _ _ rfl rfl, eqv_str]
@[simp] theorem cmp_eqb (a b : Bool) : cmpD .eq (.bool a) (.bool b) = .ok (decide (a = b)) := by rw [cmpEq _ _ rfl rfl, eqv_bool]
@[simp] theorem cmp_neb (a b : Bool) : cmpD .ne (.bool a) (.bool b) = .ok (!decide (a = b)) := by rw [cmpNe _ _ rfl rfl, eqv_bool]

/-! ### lists of texts -/
theorem eqvAll_strs : ∀ a b : List Str, PyData.eqvAll (a.map PyData.str) (b.map PyData.str) = decide (a = b)
  | [], [] => by simp [PyData.eqvAll]
  | [], _ :: _ => by simp [PyData.eqvAll]
  | _ :: _, [] => by simp [PyData.eqvAll]
  | x :: a, y :: b => by
    simp only [List.map_cons, PyData.eqvAll, eqv_str, eqvAll_strs a b, List.cons.injEq]
    by_cases h : x = y <;> by_cases h' : a = b <;> simp [h, h']
theorem eqv_tup_strs (a b : List Str) : PyData.eqv (.tuple (a.map .str)) (.tuple (b.map .str)) = decide (a = b) := by
  simp only [PyData.eqv]
  exact eqvAll_strs a b
theorem depths_strs : ∀ a : List Str, PyData.depthAll (a.map PyData.str) ≤ 1
  | [] => by simp [PyData.depthAll]
  | x :: a => by
    have := depths_strs a
    simp only [List.map_cons, PyData.depthAll, PyData.depth]
    omega
theorem ndcs_strs : ∀ a : List Str, ndcs (a.map PyData.str) = true
  | [] => by simp [ndcs]
  | x :: a => by simp [ndcs, ndc, ndcs_strs a]
theorem shOk_tup_strs (a : List Str) : shOk (.tuple (a.map .str)) = true := by
  have := depths_strs a
  simp only [shOk, ndc, ndcs_strs, PyData.depth, Bool.true_and, decide_eq_true_eq]
  exact decide_eq_true (by omega)
theorem shOk_lst_strs (a : List Str) : shOk (.list (a.map .str)) = true := by
  have := depths_strs a
  simp only [shOk, ndc, ndcs_strs, PyData.depth, Bool.true_and, decide_eq_true_eq]
  exact decide_eq_true (by omega)

/-! ### cuts, places -/
theorem atI_nat {α : Type} (xs : List α) (i : Nat) : atI xs (i : Int) = xs[i]? := by
  unfold atI ixN
  by_cases h : i < xs.length
  · simp [h]
  · simp [h]
theorem sIx_nat (n d k : Nat) : HT.sIx n d (some (k : Int)) = min k n := by
  unfold HT.sIx
  simp only
  rw [if_neg (by omega)]
  rfl
theorem cut_to {α : Type} (xs : List α) (k : Nat) : cutL xs none (some (k : Int)) = xs.take k := by
  unfold cutL
  rw [sIx_nat]
  simp [HT.sIx]
theorem cut_from {α : Type} (xs : List α) (k : Nat) : cutL xs (some (k : Int)) none = xs.drop k := by
  unfold cutL
  rw [sIx_nat]
  show List.take (xs.length - min k xs.length) (List.drop (min k xs.length) xs) = _
  by_cases h : k ≤ xs.length
  · rw [Nat.min_eq_left h, List.take_of_length_le (by simp)]
  · rw [Nat.min_eq_right (by omega)]
    rw [List.drop_of_length_le (by omega : xs.length ≤ k)]
    simp
theorem cut_mid {α : Type} (xs : List α) (j k : Nat) : cutL xs (some (j : Int)) (some (k : Int)) = (xs.drop j).take (k - j) := by
  unfold cutL
  rw [sIx_nat, sIx_nat]
  by_cases h : j ≤ xs.length
  · rw [Nat.min_eq_left h]
    by_cases h2 : k ≤ xs.length
    · rw [Nat.min_eq_left h2]
    · rw [Nat.min_eq_right (by omega)]
      rw [List.take_of_length_le (by simp), List.take_of_length_le (by simp; omega)]
  · rw [Nat.min_eq_right (by omega : xs.length ≤ j), List.drop_of_length_le (by omega : xs.length ≤ j)]
    simp

/-! ### loops -/
theorem lcL_map {f : Dat → Res (Option Dat)} {α : Type} {e : α → Dat} {g : α → Dat} : ∀ (xs : List α), (∀ x ∈ xs, f (e x) = .ok (some (g x))) → lcL f (xs.map e) = .ok (xs.map g)
  | [], _ => rfl
  | x :: xs, h => by
    simp only [List.map_cons, lcL]
    rw [h x (by simp), lcL_map xs fun y hy => h y (by simp [hy])]
    rfl
theorem lcL_filter {f : Dat → Res (Option Dat)} {α : Type} {e : α → Dat} {g : α → Dat} {p : α → Bool} : ∀ (xs : List α), (∀ x ∈ xs, f (e x) = .ok (if p x then some (g x) else none)) → lcL f (xs.map e) = .ok ((xs.filter p).map g)
  | [], _ => rfl
  | x :: xs, h => by
    simp only [List.map_cons, lcL]
    rw [h x (by simp), lcL_filter xs fun y hy => h y (by simp [hy])]
    cases hp : p x <;> simp [hp]
/-- a loop, by what holds ahead of the turns that are left -/
theorem forL_rule {tmp : List Nat} {f : Dat → En → Out} {Q : Out → Prop} {α : Type} {e : α → Dat} (I : List α → En → Prop) : ∀ (xs : List α) (ρ : En), I xs (unS tmp ρ) → (∀ ρ, I [] ρ → Q (.nx ρ)) →
    (∀ x xs ρ, I (x :: xs) ρ → match f (e x) ρ with
      | .nx ρ' => I xs (unS tmp ρ')
      | .ct ρ' => I xs (unS tmp ρ')
      | o => Q o) → Q (forL tmp f (xs.map e) ρ)
  | [], ρ, h, h0, _ => h0 _ h
  | x :: xs, ρ, h, h0, h1 => by
    simp only [List.map_cons, forL]
    have := h1 x xs _ h
    cases q : f (e x) (unS tmp ρ) with
    | nx ρ' => rw [q] at this; exact forL_rule I xs ρ' this h0 h1
    | ct ρ' => rw [q] at this; exact forL_rule I xs ρ' this h0 h1
    | ret d => rw [q] at this; exact this
    | exc c x => rw [q] at this; exact this
    | bad => rw [q] at this; exact this
/-- a loop that folds -/
theorem forL_fold {tmp : List Nat} {f : Dat → En → Out} {α β : Type} {e : α → Dat} (st : β → En) (g : β → α → β) (I : List α → β → Prop) : ∀ (xs : List α) (b : β) (ρ : En), I xs b → unS tmp ρ = st b →
    (∀ b x rest, x ∈ xs → I (x :: rest) b → I rest (g b x) ∧ ∃ ρ', (f (e x) (st b) = .nx ρ' ∨ f (e x) (st b) = .ct ρ') ∧ unS tmp ρ' = st (g b x)) → forL tmp f (xs.map e) ρ = .nx (st (xs.foldl g b)) ∧ I [] (xs.foldl g b)
  | [], b, ρ, hi, h, _ => ⟨by simp only [List.map_nil, forL, h, List.foldl_nil], hi⟩
  | x :: xs, b, ρ, hi, h, h1 => by
    simp only [List.map_cons, forL, h, List.foldl_cons]
    obtain ⟨hi', ρ', hq, hu⟩ := h1 b x xs (by simp) hi
    have z := forL_fold st g I xs (g b x) ρ' hi' hu fun b y rest hy => h1 b y rest (by simp [hy])
    rcases hq with hq | hq
    · rw [hq]; exact z
    · rw [hq]; exact z
/-- a loop that looks for one, else changes nothing -/
theorem forL_any {tmp : List Nat} {f : Dat → En → Out} {α : Type} {e : α → Dat} (p : α → Bool) (d : Dat) (ρ0 : En) : ∀ (xs : List α) (ρ : En), unS tmp ρ = ρ0 →
    (∀ x ∈ xs, if p x then f (e x) ρ0 = .ret d else ∃ ρ', (f (e x) ρ0 = .nx ρ' ∨ f (e x) ρ0 = .ct ρ') ∧ unS tmp ρ' = ρ0) → forL tmp f (xs.map e) ρ = cond (xs.any p) (.ret d) (.nx ρ0)
  | [], ρ, h, _ => by simp only [List.map_nil, forL, h, List.any_nil]; rfl
  | x :: xs, ρ, h, h1 => by
    simp only [List.map_cons, forL, h, List.any_cons]
    have hx := h1 x (by simp)
    by_cases hp : p x = true
    · rw [if_pos hp] at hx; rw [hx, hp]; rfl
    · rw [if_neg hp] at hx
      rw [Bool.not_eq_true] at hp
      rw [hp, Bool.false_or]
      obtain ⟨ρ', hq, hu⟩ := hx
      have z := forL_any p d ρ0 xs ρ' hu fun y hy => h1 y (by simp [hy])
      rcases hq with hq | hq
      · rw [hq]; exact z
      · rw [hq]; exact z

/-! .. of the terms -/
theorem for_fold {P : Pg} {tmp : List Nat} {tg : Tg} {it : It} {body : Ss} {ρ : En} {α β : Type} (e : α → Dat) (xs : List α) (st : β → En) (g : β → α → β) (I : List α → β → Prop) (b : β) (hi : evI P it ρ = .ok (xs.map e)) (h0 : I xs b) (hu : unS tmp ρ = st b)
    (h : ∀ b x rest, x ∈ xs → I (x :: rest) b → I rest (g b x) ∧ ∃ ρ1 ρ', setT tg (e x) (st b) = .ok ρ1 ∧ (exSs P body ρ1 = .nx ρ' ∨ exSs P body ρ1 = .ct ρ') ∧ unS tmp ρ' = st (g b x)) :
    exS P (.for_ tmp tg it body) ρ = .nx (st (xs.foldl g b)) ∧ I [] (xs.foldl g b) := by
  simp only [exS, hi, out_ok]
  refine forL_fold st g I xs b ρ h0 hu fun b x rest hx hb => ?_
  obtain ⟨h1, ρ1, ρ', h2, h3, h4⟩ := h b x rest hx hb
  refine ⟨h1, ρ', ?_, h4⟩
  rw [h2]
  exact h3
theorem for_any {P : Pg} {tmp : List Nat} {tg : Tg} {it : It} {body : Ss} {ρ : En} {α : Type} (e : α → Dat) (xs : List α) (p : α → Bool) (d : Dat) (ρ0 : En) (hi : evI P it ρ = .ok (xs.map e)) (hu : unS tmp ρ = ρ0)
    (h : ∀ x ∈ xs, ∃ ρ1, setT tg (e x) ρ0 = .ok ρ1 ∧ if p x then exSs P body ρ1 = .ret d else ∃ ρ', (exSs P body ρ1 = .nx ρ' ∨ exSs P body ρ1 = .ct ρ') ∧ unS tmp ρ' = ρ0) :
    exS P (.for_ tmp tg it body) ρ = cond (xs.any p) (.ret d) (.nx ρ0) := by
  simp only [exS, hi, out_ok]
  refine forL_any p d ρ0 xs ρ hu fun x hx => ?_
  obtain ⟨ρ1, h2, h3⟩ := h x hx
  rw [h2]
  exact h3
theorem for_rule {P : Pg} {tmp : List Nat} {tg : Tg} {it : It} {body : Ss} {ρ : En} {Q : Out → Prop} {α : Type} (e : α → Dat) (I : List α → En → Prop) (xs : List α) (hi : evI P it ρ = .ok (xs.map e)) (h0 : I xs (unS tmp ρ)) (hn : ∀ ρ, I [] ρ → Q (.nx ρ))
    (h : ∀ x xs ρ, I (x :: xs) ρ → ∃ ρ1, setT tg (e x) ρ = .ok ρ1 ∧ match exSs P body ρ1 with
      | .nx ρ' => I xs (unS tmp ρ')
      | .ct ρ' => I xs (unS tmp ρ')
      | o => Q o) : Q (exS P (.for_ tmp tg it body) ρ) := by
  simp only [exS, hi, out_ok]
  refine forL_rule I xs ρ h0 hn fun x xs ρ hx => ?_
  obtain ⟨ρ1, h2, h3⟩ := h x xs ρ hx
  rw [h2]
  exact h3
theorem lc_map {P : Pg} {own : List Nat} {tg : Tg} {it : It} {tt elt : E} {ρ : En} {α : Type} (e : α → Dat) (g : α → Dat) (xs : List α) (hi : evI P it ρ = .ok (xs.map e)) (hl : xs.length ≤ 1000000)
    (h : ∀ x ∈ xs, ∃ ρ1, setT tg (e x) (unS own ρ) = .ok ρ1 ∧ (ev P tt ρ1 >>= fun t => truD t) = .ok true ∧ ev P elt ρ1 = .ok (g x)) :
    ev P (.lc own tg it tt elt) ρ = .ok (.list (xs.map g)) := by
  simp only [ev, hi, ok_bind, List.length_map, hl, if_true]
  rw [lcL_map (g := g) xs fun x hx => ?_]
  · rfl
  · obtain ⟨ρ1, h1, h2, h3⟩ := h x hx
    rw [h1]
    simp only [ok_bind]
    cases q : ev P tt ρ1 with
    | ok t => rw [q] at h2; simp only [ok_bind] at h2; simp only [ok_bind, h2, h3, noX_ok]
    | exc c z => rw [q] at h2; cases h2
    | bad => rw [q] at h2; cases h2
theorem lc_filter {P : Pg} {own : List Nat} {tg : Tg} {it : It} {tt elt : E} {ρ : En} {α : Type} (e : α → Dat) (g : α → Dat) (p : α → Bool) (xs : List α) (hi : evI P it ρ = .ok (xs.map e)) (hl : xs.length ≤ 1000000)
    (h : ∀ x ∈ xs, ∃ ρ1, setT tg (e x) (unS own ρ) = .ok ρ1 ∧ (ev P tt ρ1 >>= fun t => truD t) = .ok (p x) ∧ (p x = true → ev P elt ρ1 = .ok (g x))) :
    ev P (.lc own tg it tt elt) ρ = .ok (.list ((xs.filter p).map g)) := by
  simp only [ev, hi, ok_bind, List.length_map, hl, if_true]
  rw [lcL_filter (g := g) (p := p) xs fun x hx => ?_]
  · rfl
  · obtain ⟨ρ1, h1, h2, h3⟩ := h x hx
    rw [h1]
    simp only [ok_bind]
    cases q : ev P tt ρ1 with
    | ok t =>
      rw [q] at h2
      simp only [ok_bind] at h2
      simp only [ok_bind, h2]
      cases hp : p x with
      | true => simp only [h3 hp, ok_bind, noX_ok]; rfl
      | false => rfl
    | exc c z => rw [q] at h2; cases h2
    | bad => rw [q] at h2; cases h2
/-- a loop, by a state of one's own -/
theorem forL_st {tmp : List Nat} {f : Dat → En → Out} {α β : Type} {e : α → Dat} (st : β → En) (I : List α → β → Prop) (Q : Out → Prop) : ∀ (xs : List α) (b : β) (ρ : En), I xs b → unS tmp ρ = st b → (∀ b, I [] b → Q (.nx (st b))) →
    (∀ x rest b, I (x :: rest) b → (∃ b' ρ', (f (e x) (st b) = .nx ρ' ∨ f (e x) (st b) = .ct ρ') ∧ unS tmp ρ' = st b' ∧ I rest b') ∨ (∃ d, f (e x) (st b) = .ret d ∧ Q (.ret d)) ∨ (∃ c z, f (e x) (st b) = .exc c z ∧ Q (.exc c z))) → Q (forL tmp f (xs.map e) ρ)
  | [], b, ρ, hi, h, hn, _ => by simp only [List.map_nil, forL, h]; exact hn b hi
  | x :: xs, b, ρ, hi, h, hn, h1 => by
    simp only [List.map_cons, forL, h]
    rcases h1 x xs b hi with ⟨b', ρ', hq, hu, hi'⟩ | ⟨d, hq, hQ⟩ | ⟨c, z, hq, hQ⟩
    · have z := forL_st st I Q xs b' ρ' hi' hu hn h1
      rcases hq with hq | hq
      · rw [hq]; exact z
      · rw [hq]; exact z
    · rw [hq]; exact hQ
    · rw [hq]; exact hQ
theorem for_st {P : Pg} {tmp : List Nat} {tg : Tg} {it : It} {body : Ss} {ρ : En} {α β : Type} (e : α → Dat) (xs : List α) (st : β → En) (I : List α → β → Prop) (Q : Out → Prop) (b : β) (hi : evI P it ρ = .ok (xs.map e)) (h0 : I xs b) (hu : unS tmp ρ = st b) (hn : ∀ b, I [] b → Q (.nx (st b)))
    (h : ∀ x rest b, I (x :: rest) b → ∃ ρ1, setT tg (e x) (st b) = .ok ρ1 ∧ ((∃ b' ρ', (exSs P body ρ1 = .nx ρ' ∨ exSs P body ρ1 = .ct ρ') ∧ unS tmp ρ' = st b' ∧ I rest b') ∨ (∃ d, exSs P body ρ1 = .ret d ∧ Q (.ret d)) ∨ (∃ c z, exSs P body ρ1 = .exc c z ∧ Q (.exc c z)))) :
    Q (exS P (.for_ tmp tg it body) ρ) := by
  simp only [exS, hi, out_ok]
  refine forL_st st I Q xs b ρ h0 hu hn fun x rest b hb => ?_
  obtain ⟨ρ1, h2, h3⟩ := h x rest b hb
  rw [h2]
  exact h3
theorem whil_st {P : Pg} {tmp : List Nat} {fuel : En → Nat} {c : E} {body : Ss} {ρ : En} {β : Type} (st : β → En) (I : β → Prop) (m : β → Nat) (Q : Out → Prop) (b : β) (h0 : I b) (hu : unS tmp ρ = st b) (hf : m b < fuel ρ)
    (h : ∀ b, I b → (tR (ev P c (st b)) = .ok false ∧ Q (.nx (st b))) ∨ (tR (ev P c (st b)) = .ok true ∧ ((∃ b' ρ', (exSs P body (st b) = .nx ρ' ∨ exSs P body (st b) = .ct ρ') ∧ unS tmp ρ' = st b' ∧ I b' ∧ m b' < m b) ∨ (∃ d, exSs P body (st b) = .ret d ∧ Q (.ret d)) ∨ (∃ c z, exSs P body (st b) = .exc c z ∧ Q (.exc c z))))) :
    Q (exS P (.whil fuel tmp c body) ρ) := by
  simp only [exS]
  generalize fuel ρ = n at hf
  induction n generalizing b ρ with
  | zero => omega
  | succ n ih =>
    simp only [whilL, hu]
    rcases h b h0 with ⟨q, hQ⟩ | ⟨q, hs⟩
    · have q' : (ev P c (st b) >>= fun d => truD d) = .ok false := q
      rw [q']
      exact hQ
    · have q' : (ev P c (st b) >>= fun d => truD d) = .ok true := q
      rw [q']
      simp only [out_ok]
      rcases hs with ⟨b', ρ', hq, hu', hi', hm⟩ | ⟨d, hq, hQ⟩ | ⟨c, z, hq, hQ⟩
      · have z := ih b' hi' hu' (by omega)
        rcases hq with hq | hq
        · rw [hq]; exact z
        · rw [hq]; exact z
      · rw [hq]; exact hQ
      · rw [hq]; exact hQ
def foundO {α : Type} (d : α → Dat) (ρ0 : En) : Option α → Out
  | some x => .ret (d x)
  | none => .nx ρ0
@[simp] theorem foundO_some {α : Type} (d : α → Dat) (ρ0 : En) (x : α) : foundO d ρ0 (some x) = .ret (d x) := nrfl rfl
@[simp] theorem foundO_none {α : Type} (d : α → Dat) (ρ0 : En) : foundO d ρ0 none = .nx ρ0 := nrfl rfl
/-- a loop that gives the first that fits -/
theorem for_find {P : Pg} {tmp : List Nat} {tg : Tg} {it : It} {body : Ss} {ρ : En} {α : Type} (e : α → Dat) (xs : List α) (p : α → Bool) (d : α → Dat) (ρ0 : En) (hi : evI P it ρ = .ok (xs.map e)) (hu : unS tmp ρ = ρ0)
    (h : ∀ x ∈ xs, ∃ ρ1, setT tg (e x) ρ0 = .ok ρ1 ∧ (p x = true → exSs P body ρ1 = .ret (d x)) ∧ (p x = false → ∃ ρ', (exSs P body ρ1 = .nx ρ' ∨ exSs P body ρ1 = .ct ρ') ∧ unS tmp ρ' = ρ0)) :
    exS P (.for_ tmp tg it body) ρ = foundO d ρ0 (xs.find? p) := by
  simp only [exS, hi, out_ok]
  clear hi
  induction xs generalizing ρ with
  | nil => simp only [List.map_nil, forL, hu, List.find?_nil, foundO]
  | cons x xs ih =>
    simp only [List.map_cons, forL, hu]
    obtain ⟨ρ1, h1, h2, h3⟩ := h x (by simp)
    rw [h1]
    simp only [out_ok]
    cases hp : p x with
    | true =>
      rw [h2 hp, List.find?_cons_of_pos hp]
      rfl
    | false =>
      obtain ⟨ρ', hq, hu'⟩ := h3 hp
      rw [List.find?_cons_of_neg (by simp [hp])]
      have z := ih hu' fun y hy => h y (by simp [hy])
      rcases hq with hq | hq
      · rw [hq]; exact z
      · rw [hq]; exact z
/-- a loop that leaves nothing behind -/
theorem for_nop {P : Pg} {tmp : List Nat} {tg : Tg} {it : It} {body : Ss} {ρ ρ0 : En} {α : Type} (e : α → Dat) (xs : List α) (hi : evI P it ρ = .ok (xs.map e)) (hu : unS tmp ρ = ρ0)
    (h : ∀ x ∈ xs, ∃ ρ1, setT tg (e x) ρ0 = .ok ρ1 ∧ ∃ ρ', (exSs P body ρ1 = .nx ρ' ∨ exSs P body ρ1 = .ct ρ') ∧ unS tmp ρ' = ρ0) : exS P (.for_ tmp tg it body) ρ = .nx ρ0 := by
  have z := for_any (P := P) (body := body) e xs (fun _ => false) .none ρ0 hi hu fun x hx => by
    obtain ⟨ρ1, h1, h2⟩ := h x hx
    exact ⟨ρ1, h1, by rw [if_neg Bool.false_ne_true]; exact h2⟩
  have e : xs.any (fun _ => false) = false := by simp
  rw [e] at z
  exact z
end NW
end

section
set_option maxHeartbeats 4000000
/-! Texts as lists of signs; more of plain maths. -/
namespace NW
open PySem PySem.Spec PyProof.Rows L2
theorem rngL_map (a : Int) (n : Nat) : rngL a n = (List.range n).map fun i => PyData.int (a + (i : Nat)) := rfl
theorem cut_map {α β : Type} (f : α → β) (xs : List α) (lo hi : Option Int) : cutL (xs.map f) lo hi = (cutL xs lo hi).map f := by
  simp [cutL, List.map_take, List.map_drop]
theorem atI_some {α : Type} (xs : List α) (i : Int) (d : α) (h : 0 ≤ i) (h' : i < xs.length) : atI xs i = some (xs.getD i.toNat d) := by
  obtain ⟨n, rfl⟩ := Int.eq_ofNat_of_zero_le h
  rw [atI_nat]
  have hn : n < xs.length := by omega
  simp [hn]
theorem str_ext {a b : Str} (h : a.cps.toList = b.cps.toList) : a = b := by
  cases a; cases b
  simp at h
  simp [h]
theorem str_cat (a b : Str) : (a ++ b).cps.toList = a.cps.toList ++ b.cps.toList := by
  show (a.cps ++ b.cps).toList = _
  simp
theorem str_len (a : Str) : a.length = a.cps.toList.length := by
  simp [Str.length]
theorem str_cat_len (a b : Str) : (a ++ b).length = a.length + b.length := by
  simp [str_len, str_cat]
/-- a text of signs -/
def tx (l : List Nat) : Str := ⟨l.toArray⟩
@[simp] theorem tx_list (l : List Nat) : (tx l).cps.toList = l := rfl
@[simp] theorem tx_len (l : List Nat) : (tx l).length = l.length := by simp [str_len]
theorem tx_cat (a b : List Nat) : tx a ++ tx b = tx (a ++ b) := str_ext (by simp [str_cat])
theorem tx_of (s : Str) : tx s.cps.toList = s := str_ext rfl
theorem tx_inj {a b : List Nat} (h : tx a = tx b) : a = b := by
  have := congrArg (fun s : Str => s.cps.toList) h
  simpa using this
theorem cutS_tx (l : List Nat) (lo hi : Option Int) : cutS (tx l) lo hi = tx (cutL l lo hi) := by
  unfold cutS cutL
  simp only [tx_len, tx_list]
  rfl
theorem sIx_neg (n d k : Nat) (h : 0 < k) : HT.sIx n d (some (-(k : Int))) = n - k := by
  unfold HT.sIx
  simp only
  rw [if_pos (by omega)]
  omega
theorem cut_toneg {α : Type} (xs : List α) (k : Nat) (h : 0 < k) : cutL xs none (some (-(k : Int))) = xs.take (xs.length - k) := by
  unfold cutL
  rw [sIx_neg _ _ _ h]
  simp [HT.sIx]
theorem cut_from1 {α : Type} (xs : List α) (k : Nat) : cutL xs (some ((k : Int) + 1)) none = xs.drop (k + 1) := cut_from xs (k + 1)
theorem cut_mid1 {α : Type} (xs : List α) (j k : Nat) : cutL xs (some (j : Int)) (some ((k : Int) + 1)) = (xs.drop j).take (k + 1 - j) := cut_mid xs j (k + 1)
theorem atI_nat1 {α : Type} (xs : List α) (i : Nat) : atI xs ((i : Int) + 1) = xs[i + 1]? := atI_nat xs (i + 1)

/-! ### data that tell their things -/
structure Enc {α : Type} [DecidableEq α] (e : α → Dat) (k : Nat) : Prop where
  eqv : ∀ a b, PyData.eqv (e a) (e b) = decide (a = b)
  ndc : ∀ a, ndc (e a) = true
  dep : ∀ a, PyData.depth (e a) ≤ k
section
variable {α : Type} [DecidableEq α] {e : α → Dat} {k : Nat}
theorem Enc.sh (E : Enc e k) (h : k ≤ 100) (a : α) : shOk (e a) = true := by
  have := E.dep a
  simp only [shOk, E.ndc a, Bool.true_and]
  exact decide_eq_true (by omega)
theorem Enc.eq (E : Enc e k) (h : k ≤ 100) (a b : α) : cmpD .eq (e a) (e b) = .ok (decide (a = b)) := by rw [cmpEq _ _ (E.sh h a) (E.sh h b), E.eqv]
theorem Enc.ne (E : Enc e k) (h : k ≤ 100) (a b : α) : cmpD .ne (e a) (e b) = .ok (!decide (a = b)) := by rw [cmpNe _ _ (E.sh h a) (E.sh h b), E.eqv]
theorem Enc.all (E : Enc e k) : ∀ a b : List α, PyData.eqvAll (a.map e) (b.map e) = decide (a = b)
  | [], [] => by simp [PyData.eqvAll]
  | [], _ :: _ => by simp [PyData.eqvAll]
  | _ :: _, [] => by simp [PyData.eqvAll]
  | x :: a, y :: b => by
    simp only [List.map_cons, PyData.eqvAll, E.eqv, E.all a b, List.cons.injEq]
    by_cases h : x = y <;> by_cases h' : a = b <;> simp [h, h']
theorem Enc.deps (E : Enc e k) : ∀ a : List α, PyData.depthAll (a.map e) ≤ k
  | [] => by simp [PyData.depthAll]
  | x :: a => by
    have h1 := E.deps a
    have h2 := E.dep x
    simp only [List.map_cons, PyData.depthAll]
    omega
theorem Enc.ndcs (E : Enc e k) : ∀ a : List α, NW.ndcs (a.map e) = true
  | [] => by simp [NW.ndcs]
  | x :: a => by simp [NW.ndcs, E.ndc x, E.ndcs a]
theorem Enc.lst (E : Enc e k) : Enc (fun a : List α => PyData.list (a.map e)) (k + 1) :=
  ⟨fun a b => by simp only [PyData.eqv]; exact E.all a b, fun a => by simp only [NW.ndc]; exact E.ndcs a, fun a => by
    have := E.deps a
    simp only [PyData.depth]
    omega⟩
theorem Enc.tup (E : Enc e k) : Enc (fun a : List α => PyData.tuple (a.map e)) (k + 1) :=
  ⟨fun a b => by simp only [PyData.eqv]; exact E.all a b, fun a => by simp only [NW.ndc]; exact E.ndcs a, fun a => by
    have := E.deps a
    simp only [PyData.depth]
    omega⟩
theorem Enc.inD (E : Enc e k) (x : α) : ∀ xs : List α, [i : Decidable (x ∈ xs)] → NW.inD (e x) (xs.map e) = @decide (x ∈ xs) i
  | [], i => by simp [NW.inD]
  | y :: ys, i => by
    simp only [List.map_cons, NW.inD, E.eqv, E.inD x ys]
    by_cases h : x = y
    · subst h; simp
    · have : ¬ y = x := fun z => h z.symm
      simp [h, this]
theorem Enc.isin (E : Enc e k) (h : k + 1 ≤ 100) (x : α) (xs : List α) [i : Decidable (x ∈ xs)] : cmpD .isin (e x) (.list (xs.map e)) = .ok (@decide (x ∈ xs) i) := by
  have h1 := E.sh (by omega) x
  have h2 := E.lst.sh h xs
  simp only [cmpD, inB]
  rw [h1, h2, E.inD]
  rfl
theorem Enc.nin (E : Enc e k) (h : k + 1 ≤ 100) (x : α) (xs : List α) [i : Decidable (x ∈ xs)] : cmpD .nin (e x) (.list (xs.map e)) = .ok (!@decide (x ∈ xs) i) := by
  have h1 := E.sh (by omega) x
  have h2 := E.lst.sh h xs
  simp only [cmpD, inB]
  rw [h1, h2, E.inD]
  rfl
end
theorem encS : Enc PyData.str 0 := ⟨fun a b => eqv_str a b, fun _ => rfl, fun _ => by simp [PyData.depth]⟩
theorem encI : Enc PyData.int 0 := ⟨fun a b => eqv_int a b, fun _ => rfl, fun _ => by simp [PyData.depth]⟩
theorem encN : Enc (fun a : List Str => PyData.tuple (a.map .str)) 1 := encS.tup

/-! ### numbers written -/
def numS (i : Int) : Str := Str.ofString (toString i)
theorem num_len (i : Int) (k : Nat) (h0 : 0 ≤ i) (hk : 0 < k) (h : i.toNat < 10 ^ k) : (numS i).length ≤ k := by
  unfold numS
  obtain ⟨n, rfl⟩ := Int.eq_ofNat_of_zero_le h0
  have h' : n < 10 ^ k := by simpa using h
  have e : (Str.ofString (toString (n : Int))).cps.toList = (Nat.toDigits 10 n).map Char.toNat := PySem.W.KIN.signs_num n
  rw [str_len, e, List.length_map]
  exact (Nat.length_toDigits_le_iff (by decide) hk).2 h'
theorem bi_str (i : Int) (h0 : 0 ≤ i) (h : i < 10 ^ 40) : biD .str [.int i] = .ok (.str (numS i)) := by
  unfold numS
  have hl : i.natAbs.log2 < 1920 := by
    by_cases z : i.natAbs = 0
    · rw [z]; decide
    · have : i.natAbs < 2 ^ 140 := by
        have e : (10 : Int) ^ 40 ≤ 2 ^ 140 := by decide +kernel
        omega
      exact Nat.lt_trans ((Nat.log2_lt z).2 this) (by decide)
  simp only [biD, if_pos hl]
theorem pow_30 : binD .pow (.int 10) (.int 30) = .ok (.int 1000000000000000000000000000000) := by
  simp only [binD]
  rw [if_pos (by decide)]
  rfl
theorem pow_9 : binD .pow (.int 10) (.int 9) = .ok (.int 1000000000) := by
  simp only [binD]
  rw [if_pos (by decide)]
  rfl
theorem bi_str30 (c : Int) : biD .str [.int (c % 1000000000000000000000000000000)] = .ok (.str (numS (c % 1000000000000000000000000000000))) := bi_str _ (by omega) (by
  have : (1000000000000000000000000000000 : Int) ≤ 10 ^ 40 := by decide +kernel
  omega)
theorem num_len30 (c : Int) : (numS (c % 1000000000000000000000000000000)).length ≤ 40 := num_len _ 40 (by omega) (by decide) (by
  have : (1000000000000000000000000000000 : Nat) ≤ 10 ^ 40 := by decide +kernel
  omega)
theorem depthAll_le {k : Nat} : ∀ ds : List Dat, (∀ d ∈ ds, PyData.depth d ≤ k) → PyData.depthAll ds ≤ k
  | [], _ => by simp [PyData.depthAll]
  | d :: ds, h => by
    have h1 := depthAll_le ds fun x hx => h x (by simp [hx])
    have h2 := h d (by simp)
    simp only [PyData.depthAll]
    omega
theorem depth_tup {k : Nat} (ds : List Dat) (h : ∀ d ∈ ds, PyData.depth d ≤ k) : PyData.depth (.tuple ds) ≤ k + 1 := by
  have := depthAll_le ds h
  simp only [PyData.depth]
  omega
theorem depth_lst {k : Nat} (ds : List Dat) (h : ∀ d ∈ ds, PyData.depth d ≤ k) : PyData.depth (.list ds) ≤ k + 1 := by
  have := depthAll_le ds h
  simp only [PyData.depth]
  omega
end NW
end

section
set_option maxHeartbeats 4000000
/-! Texts made small or great, cut at a sign. -/
namespace NW
open PySem PySem.Spec PyProof.Rows L2
def lowN (c : Nat) : Nat := if 65 ≤ c ∧ c ≤ 90 then c + 32 else c
def upN (c : Nat) : Nat := if 97 ≤ c ∧ c ≤ 122 then c - 32 else c
theorem lowOf_ascii (c : Nat) (h : c < 128) : Unicode.lowerOf c = [lowN c] := (by decide +kernel : ∀ c, c < 128 → Unicode.lowerOf c = [lowN c]) c h
theorem upOf_ascii (c : Nat) (h : c < 128) : Unicode.upperOf c = [upN c] := (by decide +kernel : ∀ c, c < 128 → Unicode.upperOf c = [upN c]) c h
theorem flat_one (g : Nat → Nat) : ∀ l : List Nat, (l.map fun c => [g c]).flatten = l.map g
  | [] => rfl
  | c :: l => by simp [flat_one g l]
theorem placed_map (l : List Nat) (f : Nat → Nat → List Nat) (g : Nat → Nat) (h : ∀ i c, l[i]? = some c → f i c = [g c]) : (⟨placed (tx l) f⟩ : Str) = tx (l.map g) := by
  apply str_ext
  show (placed (tx l) f).toList = l.map g
  unfold placed
  rw [Array.toList_flatten, Array.toList_mapIdx]
  have e : (List.mapIdx (fun i c => (f i c).toArray) (tx l).cps.toList).map Array.toList = l.map fun c => [g c] := by
    rw [tx_list]
    apply List.ext_getElem?
    intro i
    simp only [List.getElem?_map, List.getElem?_mapIdx]
    cases q : l[i]? with
    | none => rfl
    | some c => simp [h i c q]
  rw [e]
  exact flat_one g l
theorem lower_tx (l : List Nat) (h : ∀ c ∈ l, c < 128) : Txt.lower (tx l) = tx (l.map lowN) := by
  refine placed_map l _ lowN fun i c q => ?_
  have hc := h c (List.mem_of_getElem? q)
  have e : (tx l).cps[i]? = some c := by simpa [tx] using q
  unfold Unicode.lowerAt
  rw [e]
  have z : (c == 0x3A3) = false := by
    have : c ≠ 0x3A3 := by omega
    simpa using this
  simp only [z, Bool.false_and, Bool.false_eq_true, if_false]
  exact lowOf_ascii c hc
theorem upper_tx (l : List Nat) (h : ∀ c ∈ l, c < 128) : Txt.upper (tx l) = tx (l.map upN) :=
  placed_map l _ upN fun i c q => upOf_ascii c (h c (List.mem_of_getElem? q))
theorem m0_lower (l : List Nat) (h : ∀ c ∈ l, c < 128) (hl : l.length ≤ 1000000) : m0D .lower (.str (tx l)) = .ok (.str (tx (l.map lowN))) := by
  simp only [m0D, tx_len, if_pos hl, lower_tx l h]
theorem m0_upper (l : List Nat) (h : ∀ c ∈ l, c < 128) (hl : l.length ≤ 1000000) : m0D .upper (.str (tx l)) = .ok (.str (tx (l.map upN))) := by
  simp only [m0D, tx_len, if_pos hl, upper_tx l h]
/-- a text parted at a sign -/
def splitL (c : Nat) : List Nat → List (List Nat)
  | [] => [[]]
  | x :: l => if x = c then [] :: splitL c l else match splitL c l with
    | [] => [[x]]
    | w :: r => (x :: w) :: r
def joinL (c : Nat) : List (List Nat) → List Nat
  | [] => []
  | [w] => w
  | w :: v :: r => w ++ c :: joinL c (v :: r)
theorem splitL_free (c : Nat) : ∀ (l : List Nat), (∀ x ∈ l, x ≠ c) → splitL c l = [l]
  | [], _ => rfl
  | x :: l, h => by
    unfold splitL
    rw [if_neg (h x (by simp)), splitL_free c l fun y hy => h y (by simp [hy])]
theorem splitL_app (c : Nat) : ∀ (w l : List Nat), (∀ x ∈ w, x ≠ c) → splitL c (w ++ c :: l) = w :: splitL c l
  | [], l, _ => by
    rw [List.nil_append]
    conv => lhs; unfold splitL
    rw [if_pos rfl]
  | x :: w, l, h => by
    rw [List.cons_append]
    conv => lhs; unfold splitL
    rw [if_neg (h x (by simp)), splitL_app c w l fun y hy => h y (by simp [hy])]
theorem splitL_join (c : Nat) : ∀ ps : List (List Nat), ps ≠ [] → (∀ w ∈ ps, ∀ x ∈ w, x ≠ c) → splitL c (joinL c ps) = ps
  | [], h, _ => absurd rfl h
  | [w], _, f => splitL_free c w (f w (by simp))
  | w :: v :: r, _, f => by
    unfold joinL
    rw [splitL_app c w _ (f w (by simp)), splitL_join c (v :: r) (by simp) fun u hu => f u (by simp only [List.mem_cons] at hu ⊢; exact .inr hu)]
theorem splitL_ne (c : Nat) : ∀ l : List Nat, splitL c l ≠ []
  | [] => by simp [splitL]
  | x :: l => by
    unfold splitL
    split
    · simp
    · split <;> simp
theorem str_join (c : Nat) : ∀ S : List Str, (Str.join (tx [c]) S).cps.toList = joinL c (S.map fun s => s.cps.toList)
  | [] => rfl
  | [s] => rfl
  | s :: t :: r => by
    show (s ++ tx [c] ++ Str.join (tx [c]) (t :: r)).cps.toList = _
    rw [str_cat, str_cat, str_join c (t :: r)]
    simp [joinL]
theorem split_tx (c : Nat) (l : List Nat) : Txt.split (tx l) (tx [c]) = (splitL c l).map tx := by
  have h1 : (Str.join (tx [c]) (Txt.split (tx l) (tx [c]))).cps.toList = l := by rw [StrLaws.join_split, tx_list]
  have h2 := StrLaws.split_free (tx l) c
  have h3 := PyProof.Rows.split_pos (tx l) (tx [c])
  have h2' : ∀ p ∈ Txt.split (tx l) (tx [c]), c ∉ p.cps.toList := h2
  generalize Txt.split (tx l) (tx [c]) = S at *
  rw [str_join] at h1
  have e := splitL_join c (S.map fun s => s.cps.toList) (fun z => by
    have := congrArg List.length z
    simp at this
    rw [this] at h3
    simp at h3) fun w hw x hx hxc => by
      obtain ⟨s, hs, rfl⟩ := List.mem_map.mp hw
      subst hxc
      exact h2' s hs hx
  rw [h1] at e
  rw [e, List.map_map]
  have : ∀ s : Str, (tx ∘ fun s => s.cps.toList) s = s := fun s => tx_of s
  conv => lhs; rw [← List.map_id S]
  exact List.map_congr_left fun s _ => (this s).symm
theorem m1_split (c : Nat) (l : List Nat) (h : l.length ≤ 1000000) : m1D .split (.str (tx l)) (.str (tx [c])) = .ok (.list ((splitL c l).map fun w => .str (tx w))) := by
  have e : (tx [c]).length ≠ 0 ∧ (tx l).length ≤ 1000000 := ⟨by simp, by simpa using h⟩
  simp only [m1D]
  rw [if_pos e, split_tx, List.map_map]
  rfl
theorem endswith_tx (c : Nat) (l : List Nat) : Txt.endswith (tx l) (tx [c]) = decide (l.getLast? = some c) := by
  unfold Txt.endswith Builtin.Str.subAt
  simp only [tx_len, List.length_cons, List.length_nil]
  by_cases h : l = []
  · subst h
    simp
  · have hl : 0 < l.length := List.length_pos_iff.mpr h
    have e1 : decide (0 + (0 + 1) ≤ l.length) = true := decide_eq_true (by omega)
    rw [e1, Bool.true_and]
    have e2 : ((tx l).cps.extract (l.length - (0 + 1)) (l.length - (0 + 1) + (0 + 1))).toList = [l.getLast h] := by
      rw [Array.toList_extract]
      show List.extract l _ _ = _
      rw [List.extract_eq_drop_take]
      have : l.length - (0 + 1) + (0 + 1) - (l.length - (0 + 1)) = 1 := by omega
      have ed : l.drop (l.length - 1) = [l.getLast h] := by
        rw [List.drop_eq_getElem_cons (by omega : l.length - 1 < l.length), List.drop_eq_nil_of_le (by omega), List.getLast_eq_getElem]
      rw [this, Nat.zero_add, ed]
      simp
    rw [List.getLast?_eq_some_getLast h, Bool.eq_iff_iff]
    constructor
    · intro q
      have q := eq_of_beq q
      have : ((tx l).cps.extract (l.length - (0 + 1)) (l.length - (0 + 1) + (0 + 1))).toList = (tx [c]).cps.toList := by rw [q]
      rw [e2, tx_list] at this
      simp at this
      simp [this]
    · intro q
      have q := of_decide_eq_true q
      simp at q
      refine beq_iff_eq.mpr ?_
      apply Array.toList_inj.mp
      rw [e2, q]
      rfl
theorem m1_ends (c : Nat) (l : List Nat) : m1D .endswith (.str (tx l)) (.str (tx [c])) = .ok (.bool (decide (l.getLast? = some c))) := by
  simp only [m1D, endswith_tx]
theorem splitL_len (c : Nat) : ∀ l : List Nat, (splitL c l).length ≤ l.length + 1
  | [] => by simp [splitL]
  | x :: l => by
    have := splitL_len c l
    unfold splitL
    split
    · simp; omega
    · have hne := splitL_ne c l
      cases q : splitL c l with
      | nil => simp
      | cons w r => rw [q] at this; simp at this ⊢; omega
theorem splitL_mem (c : Nat) : ∀ (l : List Nat), ∀ w ∈ splitL c l, w.length ≤ l.length ∧ (∀ x ∈ w, x ∈ l ∧ x ≠ c)
  | [], w, h => by
    simp [splitL] at h
    subst h
    simp
  | x :: l, w, h => by
    unfold splitL at h
    split at h
    · rcases List.mem_cons.mp h with rfl | h
      · simp
      · have := splitL_mem c l w h
        refine ⟨by simp; omega, fun y hy => ⟨by simp [(this.2 y hy).1], (this.2 y hy).2⟩⟩
    · rename_i hx
      have hne := splitL_ne c l
      cases q : splitL c l with
      | nil => exact absurd q hne
      | cons v r =>
        rw [q] at h
        rcases List.mem_cons.mp h with rfl | h
        · have := splitL_mem c l v (by rw [q]; simp)
          refine ⟨by simp; omega, fun y hy => ?_⟩
          rcases List.mem_cons.mp hy with rfl | hy
          · exact ⟨by simp, hx⟩
          · exact ⟨by simp [(this.2 y hy).1], (this.2 y hy).2⟩
        · have := splitL_mem c l w (by rw [q]; simp [h])
          exact ⟨by simp; omega, fun y hy => ⟨by simp [(this.2 y hy).1], (this.2 y hy).2⟩⟩
theorem tx_eq (a b : List Nat) : (tx a = tx b) ↔ a = b := ⟨tx_inj, fun h => by rw [h]⟩
theorem nin_ch (c : Nat) (s : Str) : cmpD .nin (.str (tx [c])) (.str s) = .ok (!decide (c ∈ s.cps.toList)) := rfl
theorem items_tx (l : List Nat) : itemsD (.str (tx l)) = .ok (l.map fun c => PyData.str (tx [c])) := rfl
theorem len_tx (l : List Nat) (h : l.length ≤ 1000000) : biD .len [.str (tx l)] = .ok (.int l.length) := by
  simp only [biD, tx_len]
  rw [if_pos h]
theorem all_any {α : Type} (p : α → Bool) (l : List α) : l.all p = !l.any fun c => !p c := by
  induction l with
  | nil => rfl
  | cons x l ih => simp [ih]
theorem sl_dropLast (t : List Nat) (h : t.length ≤ 1000000) : slD (.str (tx t)) none (some (-1)) = .ok (.str (tx t.dropLast)) := by
  have e : cutL t none (some (-1)) = t.dropLast := by
    have : cutL t none (some (-((1 : Nat) : Int))) = t.take (t.length - 1) := cut_toneg t 1 (by omega)
    rw [List.dropLast_eq_take]
    exact this
  simp only [slD, tx_len, if_pos h, cutS_tx, e]
theorem sl_dropLastT (n : List Dat) : slD (.tuple n) none (some (-1)) = .ok (.tuple n.dropLast) := by
  have e : cutL n none (some (-1)) = n.dropLast := by
    have : cutL n none (some (-((1 : Nat) : Int))) = n.take (n.length - 1) := cut_toneg n 1 (by omega)
    rw [List.dropLast_eq_take]
    exact this
  simp only [slD, e]
theorem ix_last (n : List Dat) (d : Dat) (h : n.getLast? = some d) : ixD (.tuple n) (.int (-1)) = .ok d := by
  have hne : n ≠ [] := fun e => by subst e; cases h
  have hl : 0 < n.length := List.length_pos_iff.mpr hne
  have e : L2.atI n (-1) = some d := by
    unfold L2.atI L2.ixN
    rw [if_neg (by omega), if_pos (by omega)]
    have e2 : (-1 + (n.length : Int)).toNat = n.length - 1 := by omega
    simp only [Option.bind_some, e2]
    rw [← h, List.getLast?_eq_getElem?]
  simp only [ixD, e]
/-- a loop that raises at the first that p holds of -/
theorem for_raise {P : Pg} {tmp : List Nat} {tg : Tg} {it : It} {body : Ss} {ρ : En} {α : Type} (e : α → Dat) (xs : List α) (p : α → Bool) (c : Str) (ρ0 : En) (hi : evI P it ρ = .ok (xs.map e)) (hu : unS tmp ρ = ρ0)
    (h : ∀ x ∈ xs, ∃ ρ1, setT tg (e x) ρ0 = .ok ρ1 ∧ (p x = true → exSs P body ρ1 = .exc c none) ∧ (p x = false → ∃ ρ', (exSs P body ρ1 = .nx ρ' ∨ exSs P body ρ1 = .ct ρ') ∧ unS tmp ρ' = ρ0)) :
    exS P (.for_ tmp tg it body) ρ = cond (xs.any p) (.exc c none) (.nx ρ0) := by
  refine for_st e xs (fun _ : Unit => ρ0) (fun rest _ => xs.any p = rest.any p ∧ ∀ x ∈ rest, x ∈ xs) (fun o => o = cond (xs.any p) (.exc c none) (.nx ρ0)) () hi ⟨rfl, fun _ h => h⟩ hu (fun _ h => by rw [h.1]; rfl) fun x rest _ hI => ?_
  obtain ⟨ρ1, h1, h2, h3⟩ := h x (hI.2 x (by simp))
  refine ⟨ρ1, h1, ?_⟩
  cases q : p x with
  | true =>
    refine .inr (.inr ⟨c, none, h2 q, ?_⟩)
    rw [hI.1, List.any_cons, q]
    rfl
  | false =>
    obtain ⟨ρ', h4, h5⟩ := h3 q
    refine .inl ⟨(), ρ', h4, h5, ?_, fun y hy => hI.2 y (by simp [hy])⟩
    rw [hI.1, List.any_cons, q, Bool.false_or]
end NW
end

section
set_option maxHeartbeats 4000000
namespace NK14
open PySem PySem.Spec PyProof.Rows L2 NW
/-- at_or_beneath(name, top) slots: ['name', 'top'] -/
def b_p_at_or_beneath : Ss := .cons (.ret (.cmp .eq (.sl (.var 0) .no (.bi .len (.cons (.var 1) .nil))) (.var 1))) <|
  .nil
/-- is_word(text) slots: ['text', 'sign'] -/
def v0_p_is_word : Ss := .cons (.ifs (.cmp .nin (.var 1) (.con 1))
    (.cons (.ret (.bl false)) <|
    .nil)
    (.nil)) <|
  .nil
def w0_p_is_word : S := .for_ [1] (.nm 1) (.seq (.var 0)) v0_p_is_word
def b_p_is_word : Ss := .cons (.ifs (.not (.chn .le .le (.int 1) (.bi .len (.cons (.var 0) .nil)) (.con 0)))
    (.cons (.ret (.bl false)) <|
    .nil)
    (.nil)) <|
  .cons (w0_p_is_word) <|
  .cons (.ret (.bl true)) <|
  .nil
/-- beneath_top(text, top) slots: ['text', 'top', 'base', 'words'] -/
def b_p_beneath_top : Ss := .cons (.ifs (.cmp .eq (.var 0) (.str "@"))
    (.cons (.ret (.var 1)) <|
    .nil)
    (.nil)) <|
  .cons (.ifs (.cmp .eq (.var 0) (.str "."))
    (.cons (.ret (.tup .nil)) <|
    .nil)
    (.nil)) <|
  .cons (.set 2 (.var 1)) <|
  .cons (.ifs (.m1 .endswith (.var 0) (.str "."))
    (.cons (.set 2 (.tup .nil)) <|
    .cons (.set 0 (.sl (.var 0) .no (.neg (.int 1)))) <|
    .nil)
    (.nil)) <|
  .cons (.setO 3 (.m1 .split (.var 0) (.str "."))) <|
  .cons (.rev 3) <|
  .frz 3 <|
  .cons (.ret (.bin .add (.var 2) (.bi .tuple (.cons (.var 3) .nil)))) <|
  .nil
/-- read_name(text, top, star) slots: ['text', 'top', 'star', 'name', 'plain', 'word'] -/
def v0_p_read_name : Ss := .cons (.ifs (.not (.cal 1 (.cons (.var 5) .nil)))
    (.cons (.rais "NoName") <|
    .nil)
    (.nil)) <|
  .nil
def w0_p_read_name : S := .for_ [5] (.nm 5) (.seq (.var 4)) v0_p_read_name
def b_p_read_name : Ss := .cons (.ifs (.not (.isi .str (.var 0)))
    (.cons (.rais "NoName") <|
    .nil)
    (.nil)) <|
  .cons (.ifs (.cmp .isN (.var 1) (.non))
    (.cons (.set 1 (.tup .nil)) <|
    .nil)
    (.nil)) <|
  .cons (.set 3 (.cal 2 (.cons (.m0 .lower (.var 0)) (.cons (.var 1) .nil)))) <|
  .cons (.ifs (.cmp .gt (.bi .len (.cons (.var 3) .nil)) (.con 2))
    (.cons (.rais "NoName") <|
    .nil)
    (.nil)) <|
  .cons (.set 4 (.var 3)) <|
  .cons (.ifs (.and (.var 2) (.and (.cmp .ne (.var 3) (.tup .nil)) (.cmp .eq (.ix (.var 3) (.neg (.int 1))) (.str "*"))))
    (.cons (.set 4 (.sl (.var 3) .no (.neg (.int 1)))) <|
    .nil)
    (.nil)) <|
  .cons (w0_p_read_name) <|
  .cons (.ret (.var 3)) <|
  .nil
/-- is_kind(text) slots: ['text', 'sign'] -/
def v0_p_is_kind : Ss := .cons (.ifs (.cmp .nin (.var 1) (.con 4))
    (.cons (.ret (.bl false)) <|
    .nil)
    (.nil)) <|
  .nil
def w0_p_is_kind : S := .for_ [1] (.nm 1) (.seq (.var 0)) v0_p_is_kind
def b_p_is_kind : Ss := .cons (.ifs (.not (.chn .le .le (.int 1) (.bi .len (.cons (.var 0) .nil)) (.con 3)))
    (.cons (.ret (.bl false)) <|
    .nil)
    (.nil)) <|
  .cons (w0_p_is_kind) <|
  .cons (.ret (.bl true)) <|
  .nil
/-- is_value(text) slots: ['text', 'sign'] -/
def v0_p_is_value : Ss := .cons (.ifs (.or (.not (.chn .le .le (.str "!") (.var 1) (.str "~"))) (.cmp .eq (.bi .ord (.cons (.var 1) .nil)) (.int 37)))
    (.cons (.ret (.bl false)) <|
    .nil)
    (.nil)) <|
  .nil
def w0_p_is_value : S := .for_ [1] (.nm 1) (.seq (.var 0)) v0_p_is_value
def b_p_is_value : Ss := .cons (.ifs (.not (.chn .le .le (.int 1) (.bi .len (.cons (.var 0) .nil)) (.con 5)))
    (.cons (.ret (.bl false)) <|
    .nil)
    (.nil)) <|
  .cons (w0_p_is_value) <|
  .cons (.ret (.bl true)) <|
  .nil
/-- read_life(text) slots: ['text', 'sign'] -/
def v0_p_read_life : Ss := .cons (.ifs (.cmp .nin (.var 1) (.con 7))
    (.cons (.ret (.non)) <|
    .nil)
    (.nil)) <|
  .nil
def w0_p_read_life : S := .for_ [1] (.nm 1) (.seq (.var 0)) v0_p_read_life
def b_p_read_life : Ss := .cons (.ifs (.not (.chn .le .le (.int 1) (.bi .len (.cons (.var 0) .nil)) (.con 6)))
    (.cons (.ret (.non)) <|
    .nil)
    (.nil)) <|
  .cons (w0_p_read_life) <|
  .cons (.ifs (.and (.cmp .eq (.ix (.var 0) (.int 0)) (.str "0")) (.cmp .gt (.bi .len (.cons (.var 0) .nil)) (.int 1)))
    (.cons (.ret (.non)) <|
    .nil)
    (.nil)) <|
  .cons (.ret (.bi .int (.cons (.var 0) .nil))) <|
  .nil
/-- is_passed_over(line) slots: ['line'] -/
def b_p_is_passed_over : Ss := .cons (.ret (.or (.cmp .eq (.m1 .rstrip (.var 0) (.str " ")) (.str "")) (.m1 .startswith (.var 0) (.str ";")))) <|
  .nil
/-- words_of(line) slots: ['line', 'word'] -/
def e0_p_words_of : E := .lc [1] (.nm 1) (.seq (.m1 .split (.var 0) (.str " "))) (.cmp .ne (.var 1) (.str "")) (.var 1)
def b_p_words_of : Ss := .cons (.ret (e0_p_words_of)) <|
  .nil
/-- name_at(number, text, top, star) slots: ['number', 'text', 'top', 'star'] -/
def b_p_name_at : Ss := .cons (.tryX (.cal 3 (.cons (.var 1) (.cons (.var 2) (.cons (.var 3) .nil)))) "NoName" "BadName" 0) <|
  .nil
/-- life_at(number, text) slots: ['number', 'text', 'life'] -/
def b_p_life_at : Ss := .cons (.set 2 (.cal 6 (.cons (.var 1) .nil))) <|
  .cons (.ifs (.cmp .isN (.var 2) (.non))
    (.cons (.raisX "BadRow" (.var 0)) <|
    .nil)
    (.nil)) <|
  .cons (.ret (.var 2)) <|
  .nil
/-- value_at(number, kind, text, top) slots: ['number', 'kind', 'text', 'top'] -/
def b_p_value_at : Ss := .cons (.ifs (.cmp .isin (.var 1) (.con 8))
    (.cons (.ret (.cal 9 (.cons (.var 0) (.cons (.var 2) (.cons (.var 3) (.cons (.bl false) .nil)))))) <|
    .nil)
    (.nil)) <|
  .cons (.ifs (.not (.cal 5 (.cons (.var 2) .nil)))
    (.cons (.raisX "BadRow" (.var 0)) <|
    .nil)
    (.nil)) <|
  .cons (.ret (.var 2)) <|
  .nil
/-- head_of(number, line) slots: ['number', 'line', 'words', 'top'] -/
def b_p_head_of : Ss := .cons (.set 2 (.cal 8 (.cons (.var 1) .nil))) <|
  .cons (.ifs (.or (.m1 .startswith (.var 1) (.str " ")) (.or (.cmp .ne (.bi .len (.cons (.var 2) .nil)) (.int 3)) (.cmp .ne (.ix (.var 2) (.int 0)) (.str "zone"))))
    (.cons (.raisX "BadRow" (.var 0)) <|
    .nil)
    (.nil)) <|
  .cons (.set 3 (.cal 9 (.cons (.var 0) (.cons (.ix (.var 2) (.int 1)) (.cons (.tup .nil) (.cons (.bl false) .nil)))))) <|
  .cons (.ifs (.not (.m1 .endswith (.ix (.var 2) (.int 1)) (.str ".")))
    (.cons (.raisX "BadName" (.var 0)) <|
    .nil)
    (.nil)) <|
  .cons (.ret (.tup (.cons (.var 3) (.cons (.cal 10 (.cons (.var 0) (.cons (.ix (.var 2) (.int 2)) .nil))) .nil)))) <|
  .nil
/-- parts_of(number, line, top, rows) slots: ['number', 'line', 'top', 'rows', 'words', 'name'] -/
def b_p_parts_of : Ss := .cons (.set 4 (.cal 8 (.cons (.var 1) .nil))) <|
  .cons (.ifs (.m1 .startswith (.var 1) (.str " "))
    (.cons (.ifs (.or (.cmp .ne (.bi .len (.cons (.var 4) .nil)) (.int 3)) (.cmp .eq (.tv 3) (.lst .nil)))
      (.cons (.raisX "BadRow" (.var 0)) <|
      .nil)
      (.nil)) <|
    .cons (.ret (.tup (.cons (.ix (.ix (.tv 3) (.neg (.int 1))) (.int 0)) (.cons (.var 4) .nil)))) <|
    .nil)
    (.nil)) <|
  .cons (.ifs (.cmp .ne (.bi .len (.cons (.var 4) .nil)) (.int 4))
    (.cons (.raisX "BadRow" (.var 0)) <|
    .nil)
    (.nil)) <|
  .cons (.set 5 (.cal 9 (.cons (.var 0) (.cons (.ix (.var 4) (.int 0)) (.cons (.var 2) (.cons (.bl true) .nil)))))) <|
  .cons (.ifs (.not (.cal 0 (.cons (.var 5) (.cons (.var 2) .nil))))
    (.cons (.raisX "Outside" (.var 0)) <|
    .nil)
    (.nil)) <|
  .cons (.ret (.tup (.cons (.var 5) (.cons (.sl (.var 4) (.int 1) .no) .nil)))) <|
  .nil
/-- clashes(row, rows) slots: ['row', 'rows', 'one'] -/
def v0_p_clashes : Ss := .cons (.ifs (.cmp .eq (.ix (.var 2) (.int 0)) (.ix (.var 0) (.int 0)))
    (.cons (.ifs (.or (.cmp .eq (.ix (.var 2) (.int 2)) (.str "else")) (.cmp .eq (.ix (.var 0) (.int 2)) (.str "else")))
      (.cons (.ret (.bl true)) <|
      .nil)
      (.nil)) <|
    .cons (.ifs (.and (.cmp .eq (.ix (.var 2) (.int 2)) (.ix (.var 0) (.int 2))) (.or (.cmp .eq (.ix (.var 0) (.int 2)) (.str "down")) (.cmp .eq (.ix (.var 2) (.int 3)) (.ix (.var 0) (.int 3)))))
      (.cons (.ret (.bl true)) <|
      .nil)
      (.nil)) <|
    .nil)
    (.nil)) <|
  .nil
def w0_p_clashes : S := .for_ [2] (.nm 2) (.lent 1) v0_p_clashes
def b_p_clashes : Ss := .cons (w0_p_clashes) <|
  .cons (.ret (.bl false)) <|
  .nil
/-- row_of(number, line, top, rows) slots: ['number', 'line', 'top', 'rows', 'name', 'words', 'life', 'kind', 'value', 'row'] -/
def b_p_row_of : Ss := .cons (.tup [4, 5] (.cal 13 (.cons (.var 0) (.cons (.var 1) (.cons (.var 2) (.cons (.tv 3) .nil)))))) <|
  .cons (.set 6 (.cal 10 (.cons (.var 0) (.cons (.ix (.var 5) (.int 0)) .nil)))) <|
  .cons (.set 7 (.ix (.var 5) (.int 1))) <|
  .cons (.ifs (.not (.cal 4 (.cons (.var 7) .nil)))
    (.cons (.raisX "BadRow" (.var 0)) <|
    .nil)
    (.nil)) <|
  .cons (.set 8 (.cal 11 (.cons (.var 0) (.cons (.var 7) (.cons (.ix (.var 5) (.int 2)) (.cons (.var 2) .nil)))))) <|
  .cons (.ifs (.and (.cmp .eq (.var 7) (.str "down")) (.or (.cmp .eq (.var 4) (.var 2)) (.cmp .eq (.ix (.var 4) (.neg (.int 1))) (.str "*"))))
    (.cons (.raisX "BadCut" (.var 0)) <|
    .nil)
    (.nil)) <|
  .cons (.set 9 (.tup (.cons (.var 4) (.cons (.var 6) (.cons (.var 7) (.cons (.var 8) .nil)))))) <|
  .cons (.ifs (.cal 14 (.cons (.var 9) (.cons (.tv 3) .nil)))
    (.cons (.raisX "Clash" (.var 0)) <|
    .nil)
    (.nil)) <|
  .cons (.ret (.var 9)) <|
  .nil
/-- read_zone(text) slots: ['text', 'head', 'rows', 'number', 'line'] -/
def v0_p_read_zone : Ss := .cons (.set 3 (.bin .add (.var 3) (.int 1))) <|
  .cons (.ifs (.cal 7 (.cons (.var 4) .nil))
    (.cons (.cont) <|
    .nil)
    (.nil)) <|
  .cons (.ifs (.cmp .isN (.var 1) (.non))
    (.cons (.set 1 (.cal 12 (.cons (.var 3) (.cons (.var 4) .nil)))) <|
    .nil)
    (.cons (.app 2 (.cal 15 (.cons (.var 3) (.cons (.var 4) (.cons (.ix (.var 1) (.int 0)) (.cons (.tv 2) .nil)))))) <|
    .nil)) <|
  .nil
def w0_p_read_zone : S := .for_ [4] (.nm 4) (.seq (.m1 .split (.var 0) (.str "\n"))) v0_p_read_zone
def b_p_read_zone : Ss := .cons (.ifs (.not (.isi .str (.var 0)))
    (.cons (.raisX "BadRow" (.int 0)) <|
    .nil)
    (.nil)) <|
  .cons (.set 1 (.non)) <|
  .cons (.setO 2 (.lst .nil)) <|
  .cons (.set 3 (.int 0)) <|
  .cons (w0_p_read_zone) <|
  .frz 2 <|
  .cons (.ifs (.cmp .isN (.var 1) (.non))
    (.cons (.raisX "BadRow" (.int 0)) <|
    .nil)
    (.nil)) <|
  .cons (.ret (.tup (.cons (.ix (.var 1) (.int 0)) (.cons (.ix (.var 1) (.int 1)) (.cons (.var 2) .nil))))) <|
  .nil
/-- _law_cell_at(_law_script, _law_k) slots: ['_law_script', '_law_k'] -/
def b_l_cell_at : Ss := .cons (.ifs (.cmp .lt (.var 1) (.bi .len (.cons (.var 0) .nil)))
    (.cons (.ret (.ix (.var 0) (.var 1))) <|
    .nil)
    (.nil)) <|
  .cons (.ret (.int 0)) <|
  .nil
/-- _law_part(_law_cell, _law_k, _law_many) slots: ['_law_cell', '_law_k', '_law_many'] -/
def b_l_part : Ss := .cons (.ret (.bin .mod (.bin .mod (.bin .mul (.bin .mod (.bin .mul (.bin .add (.bin .mod (.var 0) (.int 99991)) (.int 17)) (.bin .add (.int 48271) (.bin .mul (.int 7919) (.var 1)))) (.int 65537)) (.bin .add (.var 1) (.int 3))) (.int 8191)) (.var 2))) <|
  .nil
/-- _law_words(_law_one, _law_other) slots: ['_law_one', '_law_other', '_law_signs', '_law_size', '_law_at', '_law_words_here', '_law_k', '_law_word', '_law_j', '_law_number'] -/
def v0_l_words : Ss := .cons (.set 9 (.cal 18 (.cons (.var 0) (.cons (.bin .add (.var 8) (.int 2)) (.cons (.int 37) .nil))))) <|
  .cons (.ifs (.cmp .eq (.var 8) (.var 4))
    (.cons (.set 9 (.bin .add (.var 9) (.var 6))) <|
    .nil)
    (.nil)) <|
  .cons (.set 7 (.bin .add (.var 7) (.ix (.var 2) (.bin .mod (.var 9) (.int 37))))) <|
  .nil
def w0_l_words : S := .for_ [8, 9] (.nm 8) (.rng1 (.var 3)) v0_l_words
def v1_l_words : Ss := .cons (.set 7 (.str "")) <|
  .cons (w0_l_words) <|
  .cons (.app 5 (.var 7)) <|
  .nil
def w1_l_words : S := .for_ [6, 7, 8, 9] (.nm 6) (.rng1 (.int 4)) v1_l_words
def e0_l_words : E := .lc [6] (.nm 6) (.rng1 (.int 4)) (.bl true) (.sl (.ix (.var 5) (.int 0)) .no (.bin .sub (.var 3) (.var 6)))
def b_l_words : Ss := .cons (.set 2 (.str "abcdefghijklmnopqrstuvwxyz0123456789-")) <|
  .cons (.set 3 (.bin .add (.int 1) (.cal 18 (.cons (.var 0) (.cons (.int 0) (.cons (.int 12) .nil)))))) <|
  .cons (.set 4 (.cal 18 (.cons (.var 1) (.cons (.int 1) (.cons (.var 3) .nil))))) <|
  .cons (.setO 5 (.lst .nil)) <|
  .cons (w1_l_words) <|
  .frz 5 <|
  .cons (.ifs (.and (.cmp .gt (.var 3) (.int 3)) (.cmp .eq (.bin .mod (.var 1) (.int 2)) (.int 1)))
    (.cons (.ret (e0_l_words)) <|
    .nil)
    (.nil)) <|
  .cons (.ret (.var 5)) <|
  .nil
/-- _law_below(_law_words_here, _law_cell, _law_k, _law_many) slots: ['_law_words_here', '_law_cell', '_law_k', '_law_many', '_law_name', '_law_j'] -/
def v0_l_below : Ss := .cons (.set 4 (.bin .add (.var 4) (.tup (.cons (.ix (.var 0) (.cal 18 (.cons (.var 1) (.cons (.bin .add (.var 2) (.var 5)) (.cons (.int 4) .nil))))) .nil)))) <|
  .nil
def w0_l_below : S := .for_ [5] (.nm 5) (.rng1 (.var 3)) v0_l_below
def b_l_below : Ss := .cons (.set 4 (.tup .nil)) <|
  .cons (w0_l_below) <|
  .cons (.ret (.var 4)) <|
  .nil
/-- _law_row(_law_words_here, _law_top, _law_cell) slots: ['_law_words_here', '_law_top', '_law_cell', '_law_name', '_law_kind', '_law_life'] -/
def b_l_row : Ss := .cons (.set 3 (.bin .add (.var 1) (.cal 20 (.cons (.var 0) (.cons (.var 2) (.cons (.int 1) (.cons (.cal 18 (.cons (.var 2) (.cons (.int 0) (.cons (.int 4) .nil)))) .nil))))))) <|
  .cons (.ifs (.cmp .eq (.cal 18 (.cons (.var 2) (.cons (.int 5) (.cons (.int 5) .nil)))) (.int 1))
    (.cons (.set 3 (.bin .add (.var 3) (.tup (.cons (.str "*") .nil)))) <|
    .nil)
    (.nil)) <|
  .cons (.set 4 (.ix (.lst (.cons (.str "mark") (.cons (.str "door") (.cons (.str "else") (.cons (.str "down") (.cons (.str "markers") .nil)))))) (.cal 18 (.cons (.var 2) (.cons (.int 6) (.cons (.int 5) .nil)))))) <|
  .cons (.set 5 (.ix (.lst (.cons (.bin .mod (.bin .mul (.var 2) (.int 48271)) (.int 999999937)) (.cons (.bin .sub (.int 999999999) (.bin .mod (.var 2) (.int 100))) .nil))) (.bin .div (.cal 18 (.cons (.var 2) (.cons (.int 17) (.cons (.int 6) .nil)))) (.int 5)))) <|
  .cons (.ifs (.cmp .isin (.var 4) (.lst (.cons (.str "down") (.cons (.str "else") .nil))))
    (.cons (.ret (.tup (.cons (.var 3) (.cons (.var 5) (.cons (.var 4) (.cons (.cal 20 (.cons (.var 0) (.cons (.var 2) (.cons (.int 7) (.cons (.cal 18 (.cons (.var 2) (.cons (.int 11) (.cons (.int 4) .nil)))) .nil))))) .nil)))))) <|
    .nil)
    (.nil)) <|
  .cons (.ret (.tup (.cons (.var 3) (.cons (.var 5) (.cons (.var 4) (.cons (.bin .add (.str "v") (.bi .str (.cons (.bin .mod (.var 2) (.bin .pow (.int 10) (.int 30))) .nil))) .nil)))))) <|
  .nil
/-- _law_fits(_law_rows_here, _law_row_here, _law_top) slots: ['_law_rows_here', '_law_row_here', '_law_top', '_law_one'] -/
def v0_l_fits : Ss := .cons (.ifs (.cmp .eq (.ix (.var 3) (.int 0)) (.ix (.var 1) (.int 0)))
    (.cons (.ifs (.or (.cmp .eq (.ix (.var 3) (.int 2)) (.str "else")) (.cmp .eq (.ix (.var 1) (.int 2)) (.str "else")))
      (.cons (.ret (.bl false)) <|
      .nil)
      (.nil)) <|
    .cons (.ifs (.and (.cmp .eq (.ix (.var 3) (.int 2)) (.ix (.var 1) (.int 2))) (.or (.cmp .eq (.ix (.var 1) (.int 2)) (.str "down")) (.cmp .eq (.ix (.var 3) (.int 3)) (.ix (.var 1) (.int 3)))))
      (.cons (.ret (.bl false)) <|
      .nil)
      (.nil)) <|
    .nil)
    (.nil)) <|
  .nil
def w0_l_fits : S := .for_ [3] (.nm 3) (.lent 0) v0_l_fits
def b_l_fits : Ss := .cons (.ifs (.and (.cmp .eq (.ix (.var 1) (.int 2)) (.str "down")) (.or (.cmp .eq (.ix (.var 1) (.int 0)) (.var 2)) (.cmp .eq (.ix (.ix (.var 1) (.int 0)) (.neg (.int 1))) (.str "*"))))
    (.cons (.ret (.bl false)) <|
    .nil)
    (.nil)) <|
  .cons (w0_l_fits) <|
  .cons (.ret (.bl true)) <|
  .nil
/-- _law_rows(_law_words_here, _law_top, _law_cells) slots: ['_law_words_here', '_law_top', '_law_cells', '_law_rows_here', '_law_cell', '_law_row_here'] -/
def v0_l_rows : Ss := .cons (.set 5 (.cal 21 (.cons (.var 0) (.cons (.var 1) (.cons (.var 4) .nil))))) <|
  .cons (.ifs (.cal 22 (.cons (.tv 3) (.cons (.var 5) (.cons (.var 1) .nil))))
    (.cons (.app 3 (.var 5)) <|
    .nil)
    (.nil)) <|
  .nil
def w0_l_rows : S := .for_ [4, 5] (.nm 4) (.seq (.var 2)) v0_l_rows
def b_l_rows : Ss := .cons (.setO 3 (.lst .nil)) <|
  .cons (w0_l_rows) <|
  .frz 3 <|
  .cons (.ret (.var 3)) <|
  .nil
/-- _law_name_text(_law_name) slots: ['_law_name', '_law_text', '_law_word'] -/
def v0_l_name_text : Ss := .cons (.set 1 (.bin .add (.bin .add (.var 2) (.str ".")) (.var 1))) <|
  .nil
def w0_l_name_text : S := .for_ [2] (.nm 2) (.seq (.var 0)) v0_l_name_text
def b_l_name_text : Ss := .cons (.ifs (.cmp .eq (.var 0) (.tup .nil))
    (.cons (.ret (.str ".")) <|
    .nil)
    (.nil)) <|
  .cons (.set 1 (.str "")) <|
  .cons (w0_l_name_text) <|
  .cons (.ret (.var 1)) <|
  .nil
/-- _law_line(_law_row_here) slots: ['_law_row_here', '_law_value'] -/
def b_l_line : Ss := .cons (.set 1 (.ix (.var 0) (.int 3))) <|
  .cons (.ifs (.cmp .isin (.ix (.var 0) (.int 2)) (.lst (.cons (.str "down") (.cons (.str "else") .nil))))
    (.cons (.set 1 (.cal 24 (.cons (.var 1) .nil))) <|
    .nil)
    (.nil)) <|
  .cons (.ret (.bin .add (.bin .add (.bin .add (.bin .add (.bin .add (.bin .add (.cal 24 (.cons (.ix (.var 0) (.int 0)) .nil)) (.str " ")) (.bi .str (.cons (.ix (.var 0) (.int 1)) .nil))) (.str " ")) (.ix (.var 0) (.int 2))) (.str " ")) (.var 1))) <|
  .nil
/-- _law_bad_name(_law_name, _law_cell) slots: ['_law_name', '_law_cell', '_law_text', '_law_at', '_law_odd', '_law_some'] -/
def b_l_bad_name : Ss := .cons (.set 2 (.cal 24 (.cons (.var 0) .nil))) <|
  .cons (.set 3 (.bin .mod (.bin .div (.var 1) (.int 8)) (.bin .add (.bi .len (.cons (.var 2) .nil)) (.int 1)))) <|
  .cons (.set 4 (.ix (.str "!\"#$&'()+,/:;<=>?@\u005b\\]^_`{|}~") (.bin .mod (.bin .mod (.bin .mul (.var 1) (.int 48271)) (.int 65521)) (.int 28)))) <|
  .cons (.set 5 (.lst (.cons (.bin .add (.bin .add (.sl (.var 2) .no (.var 3)) (.var 4)) (.sl (.var 2) (.var 3) .no)) (.cons (.bin .add (.str ".") (.var 2)) (.cons (.bin .add (.var 2) (.str ".")) (.cons (.bin .add (.bin .mul (.str "a") (.int 13)) (.str ".")) (.cons (.str "a.*.") (.cons (.str "*a.") (.cons (.str "*.*.") (.cons (.bin .mul (.str "a.") (.int 11)) .nil)))))))))) <|
  .cons (.ifs (.and (.cmp .eq (.var 3) (.int 0)) (.cmp .eq (.var 4) (.str ";")))
    (.cons (.ret (.ix (.var 5) (.int 1))) <|
    .nil)
    (.nil)) <|
  .cons (.ifs (.and (.cmp .eq (.bin .mod (.var 1) (.int 8)) (.int 1)) (.cmp .eq (.var 2) (.str ".")))
    (.cons (.ret (.str "a..b.")) <|
    .nil)
    (.nil)) <|
  .cons (.ret (.ix (.var 5) (.bin .mod (.var 1) (.int 8)))) <|
  .nil
/-- _law_bad_rows(_law_name, _law_cell) slots: ['_law_name', '_law_cell', '_law_some', '_law_life', '_law_kind'] -/
def e0_l_bad_rows : E := .lc [3] (.nm 3) (.seq (.lst (.cons (.str "05") (.cons (.str "00") (.cons (.str "1000000000") (.cons (.str "x") (.cons (.str "-5") (.cons (.str "5-") (.cons (.str "+5") (.cons (.str "5_0") .nil)))))))))) (.bl true) (.bin .add (.bin .add (.bin .add (.var 0) (.str " ")) (.var 3)) (.str " mark x"))
def e1_l_bad_rows : E := .lc [4] (.nm 4) (.seq (.lst (.cons (.str "Mark") (.cons (.str "mar7") (.cons (.str "abcdefghi") (.cons (.str "m-k") (.cons (.str "mark.") (.cons (.str "7") (.cons (.str "Down") .nil))))))))) (.bl true) (.bin .add (.bin .add (.bin .add (.var 0) (.str " 5 ")) (.var 4)) (.str " x"))
def b_l_bad_rows : Ss := .cons (.set 2 (.lst (.cons (.var 0) (.cons (.bin .add (.var 0) (.str " 5")) (.cons (.bin .add (.var 0) (.str " 5 mark")) (.cons (.bin .add (.var 0) (.str " 5 mark x y")) (.cons (.bin .add (.var 0) (.str " 5 mark x y z")) (.cons (.bin .add (.var 0) (.str " 5 mark  x y")) .nil)))))))) <|
  .cons (.set 2 (.bin .add (.var 2) (.lst (.cons (.str "zone . 5") (.cons (.str " 5 mark") (.cons (.str " 5 mark x y") (.cons (.str " mark x") (.cons (.bin .add (.bin .add (.str "  ") (.var 0)) (.str " 5 mark x")) (.cons (.str " 5") .nil))))))))) <|
  .cons (.set 2 (.bin .add (.var 2) (e0_l_bad_rows))) <|
  .cons (.set 2 (.bin .add (.var 2) (e1_l_bad_rows))) <|
  .cons (.set 2 (.bin .add (.var 2) (.lst (.cons (.bin .add (.bin .add (.var 0) (.str " 5 mark ")) (.bin .mul (.str "x") (.int 41))) (.cons (.bin .add (.var 0) (.str " 5 down x y")) (.cons (.bin .add (.var 0) (.str " 5 else")) .nil)))))) <|
  .cons (.set 2 (.bin .add (.var 2) (.lst (.cons (.str "  ; a remark") (.cons (.str " ;") (.cons (.str " ; x y") .nil)))))) <|
  .cons (.ret (.ix (.var 2) (.bin .mod (.var 1) (.int 33)))) <|
  .nil
/-- _law_outside(_law_words_here, _law_top, _law_cell) slots: ['_law_words_here', '_law_top', '_law_cell', '_law_other', '_law_some', '_law_name', '_law_word'] -/
def e0_l_outside : E := .lc [6] (.nm 6) (.seq (.bin .add (.var 0) (.lst (.cons (.str "zz") .nil)))) (.cmp .ne (.var 6) (.ix (.var 1) (.neg (.int 1)))) (.var 6)
def b_l_outside : Ss := .cons (.set 3 (e0_l_outside)) <|
  .cons (.set 4 (.lst (.cons (.tup .nil) (.cons (.sl (.var 1) .no (.neg (.int 1))) (.cons (.bin .add (.sl (.var 1) .no (.neg (.int 1))) (.tup (.cons (.str "*") .nil))) (.cons (.bin .add (.sl (.var 1) .no (.neg (.int 1))) (.tup (.cons (.ix (.var 3) (.bin .mod (.bin .div (.var 2) (.int 5)) (.bi .len (.cons (.var 3) .nil)))) .nil))) (.cons (.bin .add (.sl (.var 1) (.int 1) .no) (.tup (.cons (.str "yy") .nil))) .nil))))))) <|
  .cons (.set 5 (.ix (.var 4) (.bin .mod (.var 2) (.int 5)))) <|
  .cons (.ifs (.cmp .eq (.sl (.var 5) .no (.bi .len (.cons (.var 1) .nil))) (.var 1))
    (.cons (.set 5 (.tup .nil)) <|
    .nil)
    (.nil)) <|
  .cons (.ret (.bin .add (.cal 24 (.cons (.var 5) .nil)) (.str " 5 mark x"))) <|
  .nil
/-- _law_clash(_law_rows_here, _law_cell) slots: ['_law_rows_here', '_law_cell', '_law_row_here'] -/
def b_l_clash : Ss := .cons (.set 2 (.ix (.var 0) (.bin .mod (.bin .div (.var 1) (.int 2)) (.bi .len (.cons (.var 0) .nil))))) <|
  .cons (.ifs (.cmp .eq (.bin .mod (.var 1) (.int 2)) (.int 0))
    (.cons (.ret (.cal 25 (.cons (.tup (.cons (.ix (.var 2) (.int 0)) (.cons (.bin .mod (.var 1) (.int 1000)) (.cons (.ix (.var 2) (.int 2)) (.cons (.ix (.var 2) (.int 3)) .nil))))) .nil))) <|
    .nil)
    (.nil)) <|
  .cons (.ret (.bin .add (.cal 24 (.cons (.ix (.var 2) (.int 0)) .nil)) (.str " 5 else a."))) <|
  .nil
/-- _law_wrong(_law_words_here, _law_top, _law_rows_here, _law_cell) slots: ['_law_words_here', '_law_top', '_law_rows_here', '_law_cell', '_law_name', '_law_way', '_law_deep', '_law_at', '_law_text'] -/
def b_l_wrong : Ss := .cons (.set 4 (.cal 24 (.cons (.bin .add (.var 1) (.tup (.cons (.ix (.var 0) (.bin .mod (.bin .div (.var 3) (.int 5)) (.int 4))) .nil))) .nil))) <|
  .cons (.set 5 (.bin .mod (.var 3) (.int 5))) <|
  .cons (.set 6 (.bin .div (.var 3) (.int 20))) <|
  .cons (.ifs (.and (.cmp .eq (.var 5) (.int 0)) (.cmp .eq (.var 2) (.lst .nil)))
    (.cons (.ret (.tup (.cons (.str " 5 mark x") (.cons (.str "row") .nil)))) <|
    .nil)
    (.nil)) <|
  .cons (.ifs (.cmp .eq (.var 5) (.int 0))
    (.cons (.ret (.tup (.cons (.cal 29 (.cons (.var 2) (.cons (.var 6) .nil))) (.cons (.str "clash") .nil)))) <|
    .nil)
    (.nil)) <|
  .cons (.ifs (.and (.cmp .eq (.var 5) (.int 1)) (.cmp .ne (.var 1) (.tup .nil)))
    (.cons (.ret (.tup (.cons (.cal 28 (.cons (.var 0) (.cons (.var 1) (.cons (.var 6) .nil)))) (.cons (.str "outside") .nil)))) <|
    .nil)
    (.nil)) <|
  .cons (.ifs (.cmp .eq (.var 5) (.int 2))
    (.cons (.set 7 (.ix (.lst (.cons (.var 1) (.cons (.bin .add (.var 1) (.tup (.cons (.str "*") .nil))) (.cons (.bin .add (.var 1) (.tup (.cons (.ix (.var 0) (.int 0)) (.cons (.str "*") .nil)))) .nil)))) (.bin .mod (.var 6) (.int 3)))) <|
    .cons (.ret (.tup (.cons (.bin .add (.bin .add (.cal 24 (.cons (.var 7) .nil)) (.str " 5 down ")) (.ix (.lst (.cons (.str ".") (.cons (.str "a.") .nil))) (.bin .mod (.bin .div (.var 6) (.int 3)) (.int 2)))) (.cons (.str "cut") .nil)))) <|
    .nil)
    (.nil)) <|
  .cons (.ifs (.and (.cmp .eq (.var 5) (.int 3)) (.cmp .eq (.bin .mod (.var 6) (.int 3)) (.int 0)))
    (.cons (.ret (.tup (.cons (.bin .add (.cal 26 (.cons (.bin .add (.var 1) (.tup (.cons (.ix (.var 0) (.int 1)) .nil))) (.cons (.bin .div (.var 6) (.int 3)) .nil))) (.str " 5 mark x")) (.cons (.str "name") .nil)))) <|
    .nil)
    (.nil)) <|
  .cons (.ifs (.cmp .eq (.var 5) (.int 3))
    (.cons (.set 8 (.ix (.lst (.cons (.cal 26 (.cons (.tup (.cons (.ix (.var 0) (.int 2)) .nil)) (.cons (.bin .div (.var 6) (.int 3)) .nil))) (.cons (.str "*.a.") .nil))) (.bin .div (.bin .mod (.bin .div (.var 6) (.int 3)) (.int 5)) (.int 4)))) <|
    .cons (.ret (.tup (.cons (.bin .add (.bin .add (.bin .add (.var 4) (.str " 5 ")) (.ix (.lst (.cons (.str "else ") (.cons (.str "down ") .nil))) (.bin .sub (.bin .mod (.var 6) (.int 3)) (.int 1)))) (.var 8)) (.cons (.str "name") .nil)))) <|
    .nil)
    (.nil)) <|
  .cons (.ret (.tup (.cons (.cal 27 (.cons (.var 4) (.cons (.var 6) .nil))) (.cons (.str "row") .nil)))) <|
  .nil
/-- _law_wrong_first(_law_top, _law_cell) slots: ['_law_top', '_law_cell', '_law_name', '_law_some'] -/
def b_l_wrong_first : Ss := .cons (.set 2 (.cal 24 (.cons (.var 0) .nil))) <|
  .cons (.set 3 (.lst (.cons (.bin .add (.str "zone ") (.var 2)) (.cons (.str "zone") (.cons (.bin .add (.bin .add (.str "zones ") (.var 2)) (.str " 5")) (.cons (.bin .add (.bin .add (.str "Zone ") (.var 2)) (.str " 5")) (.cons (.bin .add (.bin .add (.str " zone ") (.var 2)) (.str " 5")) .nil))))))) <|
  .cons (.set 3 (.bin .add (.var 3) (.lst (.cons (.bin .add (.bin .add (.str "zone ") (.var 2)) (.str " 5 5")) (.cons (.bin .add (.var 2) (.str " 5 mark x")) (.cons (.bin .add (.bin .add (.str "zone ") (.var 2)) (.str " 05")) (.cons (.bin .add (.bin .add (.str "zone ") (.var 2)) (.str " x")) .nil))))))) <|
  .cons (.ifs (.cmp .lt (.bin .mod (.var 1) (.int 14)) (.int 9))
    (.cons (.ret (.tup (.cons (.ix (.var 3) (.bin .mod (.var 1) (.int 14))) (.cons (.str "row") .nil)))) <|
    .nil)
    (.nil)) <|
  .cons (.set 3 (.lst (.cons (.str "zone @ 5") (.cons (.str "zone a 5") (.cons (.str "zone *. 5") (.cons (.bin .add (.bin .add (.str "zone ") (.cal 26 (.cons (.bin .add (.var 0) (.tup (.cons (.str "a") .nil))) (.cons (.bin .div (.var 1) (.int 14)) .nil)))) (.str " 5")) (.cons (.str "zone a.b 5") .nil))))))) <|
  .cons (.ret (.tup (.cons (.ix (.var 3) (.bin .sub (.bin .mod (.var 1) (.int 14)) (.int 9))) (.cons (.str "name") .nil)))) <|
  .nil
/-- _law_passed(_law_many, _law_cell) slots: ['_law_many', '_law_cell', '_law_k'] -/
def e0_l_passed : E := .lc [2] (.nm 2) (.rng1 (.var 0)) (.bl true) (.ix (.lst (.cons (.str ";") (.cons (.str "; zone . 5") (.cons (.str "") (.cons (.str " ") (.cons (.str ";x 5 mark x") .nil)))))) (.bin .mod (.bin .add (.var 1) (.var 2)) (.int 5)))
def b_l_passed : Ss := .cons (.ret (e0_l_passed)) <|
  .nil
/-- _law_refused(_law_text) slots: ['_law_text', '_law_found', 'e'] -/
def b_l_refused : Ss := .cons (.set 1 (.tup .nil)) <|
  .cons (.tryR (.cal 16 (.cons (.var 0) .nil)) "ZoneError" 2 1 [["BadRow", "BadName", "Outside", "BadCut"], ["Clash", "WellError", "ValueError"], ["NoName", "NoKind", "NoZone", "NoDeed"]]) <|
  .cons (.ret (.var 1)) <|
  .nil
/-- _law_due(_law_number, _law_way) slots: ['_law_number', '_law_way', '_law_some', '_law_one'] -/
def e0_l_due : E := .lc [3] (.nm 3) (.seq (.var 2)) (.bl true) (.cmp .eq (.var 3) (.var 1))
def b_l_due : Ss := .cons (.set 2 (.lst (.cons (.str "row") (.cons (.str "name") (.cons (.str "outside") (.cons (.str "cut") (.cons (.str "clash") .nil))))))) <|
  .cons (.ret (.bin .add (.bin .add (.tup (.cons (.var 0) .nil)) (.bi .tuple (.cons (e0_l_due) .nil))) (.tup (.cons (.bl true) (.cons (.bl true) (.cons (.bl false) (.cons (.bl false) (.cons (.bl false) (.cons (.bl false) .nil))))))))) <|
  .nil
/-- _law_is_refused(_law_text, _law_number, _law_way) slots: ['_law_text', '_law_number', '_law_way', '_law_found'] -/
def b_l_is_refused : Ss := .cons (.set 3 (.cal 33 (.cons (.var 0) .nil))) <|
  .cons (.ifs (.or (.cmp .eq (.var 3) (.tup .nil)) (.or (.isi .bool (.ix (.var 3) (.int 0))) (.not (.isi .int (.ix (.var 3) (.int 0))))))
    (.cons (.ret (.bl false)) <|
    .nil)
    (.nil)) <|
  .cons (.ret (.cmp .eq (.var 3) (.cal 34 (.cons (.var 1) (.cons (.var 2) .nil))))) <|
  .nil
/-- _law_is_zone(_law_found, _law_top, _law_life, _law_rows_here) slots: ['_law_found', '_law_top', '_law_life', '_law_rows_here'] -/
def b_l_is_zone : Ss := .cons (.ret (.and (.isi .tuple (.var 0)) (.and (.cmp .eq (.bi .len (.cons (.var 0) .nil)) (.int 3)) (.cmp .eq (.var 0) (.tup (.cons (.var 1) (.cons (.var 2) (.cons (.var 3) .nil)))))))) <|
  .nil
/-- law(_law_script) slots: ['_law_script', '_law_words_here', '_law_top', '_law_life', '_law_rows_here', '_law_cell', '_law_lead', '_law_good', '_law_at', '_law_line_here', '_law_way', '_law_more', '_law_wrong_here', '_law_row_here'] -/
def e0_law : E := .lc [13] (.nm 13) (.seq (.var 4)) (.bl true) (.cal 25 (.cons (.var 13) .nil))
def b_law : Ss := .cons (.set 1 (.cal 19 (.cons (.cal 17 (.cons (.var 0) (.cons (.int 0) .nil))) (.cons (.cal 17 (.cons (.var 0) (.cons (.int 1) .nil))) .nil)))) <|
  .cons (.set 2 (.cal 20 (.cons (.var 1) (.cons (.cal 17 (.cons (.var 0) (.cons (.int 2) .nil))) (.cons (.int 1) (.cons (.cal 18 (.cons (.cal 17 (.cons (.var 0) (.cons (.int 2) .nil))) (.cons (.int 0) (.cons (.int 4) .nil)))) .nil)))))) <|
  .cons (.set 3 (.bin .mod (.cal 17 (.cons (.var 0) (.cons (.int 3) .nil))) (.bin .pow (.int 10) (.int 9)))) <|
  .cons (.set 4 (.cal 23 (.cons (.var 1) (.cons (.var 2) (.cons (.sl (.var 0) (.int 7) (.int 29)) .nil))))) <|
  .cons (.set 5 (.cal 17 (.cons (.var 0) (.cons (.int 4) .nil)))) <|
  .cons (.set 6 (.cal 32 (.cons (.bin .mod (.var 5) (.int 4)) (.cons (.bin .div (.var 5) (.int 4)) .nil)))) <|
  .cons (.set 7 (.bin .add (.lst (.cons (.bin .add (.bin .add (.bin .add (.str "zone ") (.cal 24 (.cons (.var 2) .nil))) (.str " ")) (.bi .str (.cons (.var 3) .nil))) .nil)) (e0_law))) <|
  .cons (.set 8 (.bin .mod (.cal 17 (.cons (.var 0) (.cons (.int 5) .nil))) (.bin .add (.bi .len (.cons (.var 4) .nil)) (.int 1)))) <|
  .cons (.tup [9, 10] (.cal 30 (.cons (.var 1) (.cons (.var 2) (.cons (.sl (.var 4) .no (.var 8)) (.cons (.bin .mod (.cal 17 (.cons (.var 0) (.cons (.int 6) .nil))) (.bin .pow (.int 10) (.int 6))) .nil)))))) <|
  .cons (.set 11 (.cal 32 (.cons (.bin .mod (.bin .div (.var 5) (.int 20)) (.int 3)) (.cons (.bin .div (.var 5) (.int 60)) .nil)))) <|
  .cons (.set 12 (.bin .add (.bin .add (.bin .add (.bin .add (.var 6) (.sl (.var 7) .no (.bin .add (.var 8) (.int 1)))) (.var 11)) (.lst (.cons (.var 9) .nil))) (.sl (.var 7) (.bin .add (.var 8) (.int 1)) .no))) <|
  .cons (.ifs (.not (.cal 35 (.cons (.m1 .join (.str "\n") (.var 12)) (.cons (.bin .add (.bin .add (.bin .add (.bi .len (.cons (.var 6) .nil)) (.var 8)) (.int 2)) (.bi .len (.cons (.var 11) .nil))) (.cons (.var 10) .nil)))))
    (.cons (.ret (.bl false)) <|
    .nil)
    (.nil)) <|
  .cons (.tup [9, 10] (.cal 31 (.cons (.var 2) (.cons (.bin .div (.var 5) (.int 180)) .nil)))) <|
  .cons (.ifs (.not (.cal 35 (.cons (.m1 .join (.str "\n") (.bin .add (.bin .add (.var 6) (.lst (.cons (.var 9) .nil))) (.sl (.var 7) (.int 1) .no))) (.cons (.bin .add (.bi .len (.cons (.var 6) .nil)) (.int 1)) (.cons (.var 10) .nil)))))
    (.cons (.ret (.bl false)) <|
    .nil)
    (.nil)) <|
  .cons (.ifs (.not (.cal 35 (.cons (.m1 .join (.str "\n") (.var 6)) (.cons (.int 0) (.cons (.str "row") .nil)))))
    (.cons (.ret (.bl false)) <|
    .nil)
    (.nil)) <|
  .cons (.ifs (.not (.cal 35 (.cons (.ix (.lst (.cons (.non) (.cons (.int 5) (.cons (.lst (.cons (.str "zone . 5") .nil)) (.cons (.tup (.cons (.str "zone") (.cons (.tup .nil) (.cons (.int 5) .nil)))) (.cons (.bl true) .nil)))))) (.bin .mod (.var 5) (.int 5))) (.cons (.int 0) (.cons (.str "row") .nil)))))
    (.cons (.ret (.bl false)) <|
    .nil)
    (.nil)) <|
  .cons (.ifs (.or (.cmp .ne (.nrw "ZoneError" (.var 3)) (.var 3)) (.cmp .ne (.nrw "BadRow" (.var 8)) (.var 8)))
    (.cons (.ret (.bl false)) <|
    .nil)
    (.nil)) <|
  .cons (.ret (.cal 36 (.cons (.cal 16 (.cons (.m1 .join (.str "\n") (.bin .add (.var 6) (.var 7))) .nil)) (.cons (.var 2) (.cons (.var 3) (.cons (.var 4) .nil)))))) <|
  .nil
def cs (k : Nat) : Dat := ([.int 12, .str "abcdefghijklmnopqrstuvwxyz0123456789-", .int 10, .int 8, .str "abcdefghijklmnopqrstuvwxyz", .int 40, .int 9, .str "0123456789", .tuple [.str "else", .str "down"]] : List Dat).getD k .none
def xmL : List (Str × Str × Bool) := [("NoName", "NoName", true), ("NoName", "ZoneError", false), ("BadName", "NoName", false), ("BadName", "ZoneError", true), ("BadRow", "NoName", false), ("BadRow", "ZoneError", true), ("Outside", "NoName", false), ("Outside", "ZoneError", true), ("BadCut", "NoName", false), ("BadCut", "ZoneError", true), ("Clash", "NoName", false), ("Clash", "ZoneError", true)]
def xm (c c' : Str) : Option Bool := xmF xmL c c'
@[simp] theorem xm_0 : xm "NoName" "NoName" = some true := by decide +kernel
@[simp] theorem xm_1 : xm "NoName" "ZoneError" = some false := by decide +kernel
@[simp] theorem xm_2 : xm "BadName" "NoName" = some false := by decide +kernel
@[simp] theorem xm_3 : xm "BadName" "ZoneError" = some true := by decide +kernel
@[simp] theorem xm_4 : xm "BadRow" "NoName" = some false := by decide +kernel
@[simp] theorem xm_5 : xm "BadRow" "ZoneError" = some true := by decide +kernel
@[simp] theorem xm_6 : xm "Outside" "NoName" = some false := by decide +kernel
@[simp] theorem xm_7 : xm "Outside" "ZoneError" = some true := by decide +kernel
@[simp] theorem xm_8 : xm "BadCut" "NoName" = some false := by decide +kernel
@[simp] theorem xm_9 : xm "BadCut" "ZoneError" = some true := by decide +kernel
@[simp] theorem xm_10 : xm "Clash" "NoName" = some false := by decide +kernel
@[simp] theorem xm_11 : xm "Clash" "ZoneError" = some true := by decide +kernel
def xiL : List (Str × Str × Bool) := ("BadName", "BadRow", false) :: ("BadName", "BadName", true) :: ("BadName", "Outside", false) :: ("BadName", "BadCut", false) :: ("BadName", "Clash", false) :: ("BadName", "WellError", true) :: ("BadName", "ValueError", true) :: ("BadName", "NoName", false) :: ("BadName", "NoKind", false) :: ("BadName", "NoZone", false) :: ("BadName", "NoDeed", false) :: ("BadRow", "BadRow", true) :: ("BadRow", "BadName", false) :: ("BadRow", "Outside", false) :: ("BadRow", "BadCut", false) :: ("BadRow", "Clash", false) :: ("BadRow", "WellError", true) :: ("BadRow", "ValueError", true) :: ("BadRow", "NoName", false) :: ("BadRow", "NoKind", false) :: ("BadRow", "NoZone", false) :: ("BadRow", "NoDeed", false) :: ("Outside", "BadRow", false) :: ("Outside", "BadName", false) :: ("Outside", "Outside", true) :: ("Outside", "BadCut", false) :: ("Outside", "Clash", false) :: ("Outside", "WellError", true) :: ("Outside", "ValueError", true) :: ("Outside", "NoName", false) :: ("Outside", "NoKind", false) :: ("Outside", "NoZone", false) :: ("Outside", "NoDeed", false) :: ("BadCut", "BadRow", false) :: ("BadCut", "BadName", false) :: ("BadCut", "Outside", false) :: ("BadCut", "BadCut", true) :: ("BadCut", "Clash", false) :: ("BadCut", "WellError", true) :: ("BadCut", "ValueError", true) :: ("BadCut", "NoName", false) :: ("BadCut", "NoKind", false) :: ("BadCut", "NoZone", false) :: ("BadCut", "NoDeed", false) :: ("Clash", "BadRow", false) :: ("Clash", "BadName", false) :: ("Clash", "Outside", false) :: ("Clash", "BadCut", false) :: ("Clash", "Clash", true) :: ("Clash", "WellError", true) :: ("Clash", "ValueError", true) :: ("Clash", "NoName", false) :: ("Clash", "NoKind", false) :: ("Clash", "NoZone", false) :: ("Clash", "NoDeed", false) :: []
def xi (c c' : Str) : Option Bool := xmF xiL c c'
@[simp] theorem xi_0 : isAll (xi "BadName") ["BadRow", "BadName", "Outside", "BadCut", "Clash", "WellError", "ValueError", "NoName", "NoKind", "NoZone", "NoDeed"] = some [false, true, false, false, false, true, true, false, false, false, false] := by decide +kernel
@[simp] theorem xi_1 : isAll (xi "BadRow") ["BadRow", "BadName", "Outside", "BadCut", "Clash", "WellError", "ValueError", "NoName", "NoKind", "NoZone", "NoDeed"] = some [true, false, false, false, false, true, true, false, false, false, false] := by decide +kernel
@[simp] theorem xi_2 : isAll (xi "Outside") ["BadRow", "BadName", "Outside", "BadCut", "Clash", "WellError", "ValueError", "NoName", "NoKind", "NoZone", "NoDeed"] = some [false, false, true, false, false, true, true, false, false, false, false] := by decide +kernel
@[simp] theorem xi_3 : isAll (xi "BadCut") ["BadRow", "BadName", "Outside", "BadCut", "Clash", "WellError", "ValueError", "NoName", "NoKind", "NoZone", "NoDeed"] = some [false, false, false, true, false, true, true, false, false, false, false] := by decide +kernel
@[simp] theorem xi_4 : isAll (xi "Clash") ["BadRow", "BadName", "Outside", "BadCut", "Clash", "WellError", "ValueError", "NoName", "NoKind", "NoZone", "NoDeed"] = some [false, false, false, false, true, true, true, false, false, false, false] := by decide +kernel
abbrev P0 : Pg := ⟨fun _ _ => .bad, cs, xm, xi⟩
abbrev g_p_at_or_beneath : Sig := ⟨"at_or_beneath", [false, false], 0, none, false⟩
abbrev N_p_at_or_beneath : List Str := ["name", "top"]
abbrev Q_p_at_or_beneath : Pg := P0
def f_p_at_or_beneath (ds : List Dat) : Res Dat := runF Q_p_at_or_beneath 2 [false, false] false b_p_at_or_beneath ds
def P1 : Pg := P0.add 0 f_p_at_or_beneath
abbrev g_p_is_word : Sig := ⟨"is_word", [false], 0, none, true⟩
abbrev N_p_is_word : List Str := ["text", "sign"]
abbrev Q_p_is_word : Pg := P1
def f_p_is_word (ds : List Dat) : Res Dat := runF Q_p_is_word 2 [false] false b_p_is_word ds
def P2 : Pg := P1.add 1 f_p_is_word
abbrev g_p_beneath_top : Sig := ⟨"beneath_top", [false, false], 0, none, true⟩
abbrev N_p_beneath_top : List Str := ["text", "top", "base", "words"]
abbrev Q_p_beneath_top : Pg := P2
def f_p_beneath_top (ds : List Dat) : Res Dat := runF Q_p_beneath_top 4 [false, false] false b_p_beneath_top ds
def P3 : Pg := P2.add 2 f_p_beneath_top
abbrev g_p_read_name : Sig := ⟨"read_name", [false, false, false], 0, none, true⟩
abbrev N_p_read_name : List Str := ["text", "top", "star", "name", "plain", "word"]
abbrev Q_p_read_name : Pg := P3
def f_p_read_name (ds : List Dat) : Res Dat := runF Q_p_read_name 6 [false, false, false] false b_p_read_name ds
def P4 : Pg := P3.add 3 f_p_read_name
abbrev g_p_is_kind : Sig := ⟨"is_kind", [false], 0, none, false⟩
abbrev N_p_is_kind : List Str := ["text", "sign"]
abbrev Q_p_is_kind : Pg := P4
def f_p_is_kind (ds : List Dat) : Res Dat := runF Q_p_is_kind 2 [false] false b_p_is_kind ds
def P5 : Pg := P4.add 4 f_p_is_kind
abbrev g_p_is_value : Sig := ⟨"is_value", [false], 0, none, false⟩
abbrev N_p_is_value : List Str := ["text", "sign"]
abbrev Q_p_is_value : Pg := P5
def f_p_is_value (ds : List Dat) : Res Dat := runF Q_p_is_value 2 [false] false b_p_is_value ds
def P6 : Pg := P5.add 5 f_p_is_value
abbrev g_p_read_life : Sig := ⟨"read_life", [false], 0, none, false⟩
abbrev N_p_read_life : List Str := ["text", "sign"]
abbrev Q_p_read_life : Pg := P6
def f_p_read_life (ds : List Dat) : Res Dat := runF Q_p_read_life 2 [false] false b_p_read_life ds
def P7 : Pg := P6.add 6 f_p_read_life
abbrev g_p_is_passed_over : Sig := ⟨"is_passed_over", [false], 0, none, false⟩
abbrev N_p_is_passed_over : List Str := ["line"]
abbrev Q_p_is_passed_over : Pg := P7
def f_p_is_passed_over (ds : List Dat) : Res Dat := runF Q_p_is_passed_over 1 [false] false b_p_is_passed_over ds
def P8 : Pg := P7.add 7 f_p_is_passed_over
abbrev g_p_words_of : Sig := ⟨"words_of", [false], 0, none, false⟩
abbrev N_p_words_of : List Str := ["line", "word"]
abbrev Q_p_words_of : Pg := P8
def f_p_words_of (ds : List Dat) : Res Dat := runF Q_p_words_of 2 [false] false b_p_words_of ds
def P9 : Pg := P8.add 8 f_p_words_of
abbrev g_p_name_at : Sig := ⟨"name_at", [false, false, false, false], 0, none, false⟩
abbrev N_p_name_at : List Str := ["number", "text", "top", "star"]
abbrev Q_p_name_at : Pg := P9
def f_p_name_at (ds : List Dat) : Res Dat := runF Q_p_name_at 4 [false, false, false, false] false b_p_name_at ds
def P10 : Pg := P9.add 9 f_p_name_at
abbrev g_p_life_at : Sig := ⟨"life_at", [false, false], 0, none, false⟩
abbrev N_p_life_at : List Str := ["number", "text", "life"]
abbrev Q_p_life_at : Pg := P10
def f_p_life_at (ds : List Dat) : Res Dat := runF Q_p_life_at 3 [false, false] false b_p_life_at ds
def P11 : Pg := P10.add 10 f_p_life_at
abbrev g_p_value_at : Sig := ⟨"value_at", [false, false, false, false], 0, none, false⟩
abbrev N_p_value_at : List Str := ["number", "kind", "text", "top"]
abbrev Q_p_value_at : Pg := P11
def f_p_value_at (ds : List Dat) : Res Dat := runF Q_p_value_at 4 [false, false, false, false] false b_p_value_at ds
def P12 : Pg := P11.add 11 f_p_value_at
abbrev g_p_head_of : Sig := ⟨"head_of", [false, false], 0, none, false⟩
abbrev N_p_head_of : List Str := ["number", "line", "words", "top"]
abbrev Q_p_head_of : Pg := P12
def f_p_head_of (ds : List Dat) : Res Dat := runF Q_p_head_of 4 [false, false] false b_p_head_of ds
def P13 : Pg := P12.add 12 f_p_head_of
abbrev g_p_parts_of : Sig := ⟨"parts_of", [false, false, false, true], 0, none, false⟩
abbrev N_p_parts_of : List Str := ["number", "line", "top", "rows", "words", "name"]
abbrev Q_p_parts_of : Pg := P13
def f_p_parts_of (ds : List Dat) : Res Dat := runF Q_p_parts_of 6 [false, false, false, true] false b_p_parts_of ds
def P14 : Pg := P13.add 13 f_p_parts_of
abbrev g_p_clashes : Sig := ⟨"clashes", [false, true], 0, none, false⟩
abbrev N_p_clashes : List Str := ["row", "rows", "one"]
abbrev Q_p_clashes : Pg := P14
def f_p_clashes (ds : List Dat) : Res Dat := runF Q_p_clashes 3 [false, true] false b_p_clashes ds
def P15 : Pg := P14.add 14 f_p_clashes
abbrev g_p_row_of : Sig := ⟨"row_of", [false, false, false, true], 0, none, false⟩
abbrev N_p_row_of : List Str := ["number", "line", "top", "rows", "name", "words", "life", "kind", "value", "row"]
abbrev Q_p_row_of : Pg := P15
def f_p_row_of (ds : List Dat) : Res Dat := runF Q_p_row_of 10 [false, false, false, true] false b_p_row_of ds
def P16 : Pg := P15.add 15 f_p_row_of
abbrev g_p_read_zone : Sig := ⟨"read_zone", [false], 0, none, false⟩
abbrev N_p_read_zone : List Str := ["text", "head", "rows", "number", "line"]
abbrev Q_p_read_zone : Pg := P16
def f_p_read_zone (ds : List Dat) : Res Dat := runF Q_p_read_zone 5 [false] false b_p_read_zone ds
def P17 : Pg := P16.add 16 f_p_read_zone
abbrev g_l_cell_at : Sig := ⟨"_law_cell_at", [false, false], 0, none, false⟩
abbrev N_l_cell_at : List Str := ["_law_script", "_law_k"]
abbrev Q_l_cell_at : Pg := P17
def f_l_cell_at (ds : List Dat) : Res Dat := runF Q_l_cell_at 2 [false, false] false b_l_cell_at ds
def P18 : Pg := P17.add 17 f_l_cell_at
abbrev g_l_part : Sig := ⟨"_law_part", [false, false, false], 0, none, false⟩
abbrev N_l_part : List Str := ["_law_cell", "_law_k", "_law_many"]
abbrev Q_l_part : Pg := P18
def f_l_part (ds : List Dat) : Res Dat := runF Q_l_part 3 [false, false, false] false b_l_part ds
def P19 : Pg := P18.add 18 f_l_part
abbrev g_l_words : Sig := ⟨"_law_words", [false, false], 0, none, false⟩
abbrev N_l_words : List Str := ["_law_one", "_law_other", "_law_signs", "_law_size", "_law_at", "_law_words_here", "_law_k", "_law_word", "_law_j", "_law_number"]
abbrev Q_l_words : Pg := P19
def f_l_words (ds : List Dat) : Res Dat := runF Q_l_words 10 [false, false] false b_l_words ds
def P20 : Pg := P19.add 19 f_l_words
abbrev g_l_below : Sig := ⟨"_law_below", [false, false, false, false], 0, none, false⟩
abbrev N_l_below : List Str := ["_law_words_here", "_law_cell", "_law_k", "_law_many", "_law_name", "_law_j"]
abbrev Q_l_below : Pg := P20
def f_l_below (ds : List Dat) : Res Dat := runF Q_l_below 6 [false, false, false, false] false b_l_below ds
def P21 : Pg := P20.add 20 f_l_below
abbrev g_l_row : Sig := ⟨"_law_row", [false, false, false], 0, none, false⟩
abbrev N_l_row : List Str := ["_law_words_here", "_law_top", "_law_cell", "_law_name", "_law_kind", "_law_life"]
abbrev Q_l_row : Pg := P21
def f_l_row (ds : List Dat) : Res Dat := runF Q_l_row 6 [false, false, false] false b_l_row ds
def P22 : Pg := P21.add 21 f_l_row
abbrev g_l_fits : Sig := ⟨"_law_fits", [true, false, false], 0, none, false⟩
abbrev N_l_fits : List Str := ["_law_rows_here", "_law_row_here", "_law_top", "_law_one"]
abbrev Q_l_fits : Pg := P22
def f_l_fits (ds : List Dat) : Res Dat := runF Q_l_fits 4 [true, false, false] false b_l_fits ds
def P23 : Pg := P22.add 22 f_l_fits
abbrev g_l_rows : Sig := ⟨"_law_rows", [false, false, false], 0, none, false⟩
abbrev N_l_rows : List Str := ["_law_words_here", "_law_top", "_law_cells", "_law_rows_here", "_law_cell", "_law_row_here"]
abbrev Q_l_rows : Pg := P23
def f_l_rows (ds : List Dat) : Res Dat := runF Q_l_rows 6 [false, false, false] false b_l_rows ds
def P24 : Pg := P23.add 23 f_l_rows
abbrev g_l_name_text : Sig := ⟨"_law_name_text", [false], 0, none, false⟩
abbrev N_l_name_text : List Str := ["_law_name", "_law_text", "_law_word"]
abbrev Q_l_name_text : Pg := P24
def f_l_name_text (ds : List Dat) : Res Dat := runF Q_l_name_text 3 [false] false b_l_name_text ds
def P25 : Pg := P24.add 24 f_l_name_text
abbrev g_l_line : Sig := ⟨"_law_line", [false], 0, none, false⟩
abbrev N_l_line : List Str := ["_law_row_here", "_law_value"]
abbrev Q_l_line : Pg := P25
def f_l_line (ds : List Dat) : Res Dat := runF Q_l_line 2 [false] false b_l_line ds
def P26 : Pg := P25.add 25 f_l_line
abbrev g_l_bad_name : Sig := ⟨"_law_bad_name", [false, false], 0, none, false⟩
abbrev N_l_bad_name : List Str := ["_law_name", "_law_cell", "_law_text", "_law_at", "_law_odd", "_law_some"]
abbrev Q_l_bad_name : Pg := P26
def f_l_bad_name (ds : List Dat) : Res Dat := runF Q_l_bad_name 6 [false, false] false b_l_bad_name ds
def P27 : Pg := P26.add 26 f_l_bad_name
abbrev g_l_bad_rows : Sig := ⟨"_law_bad_rows", [false, false], 0, none, false⟩
abbrev N_l_bad_rows : List Str := ["_law_name", "_law_cell", "_law_some", "_law_life", "_law_kind"]
abbrev Q_l_bad_rows : Pg := P27
def f_l_bad_rows (ds : List Dat) : Res Dat := runF Q_l_bad_rows 5 [false, false] false b_l_bad_rows ds
def P28 : Pg := P27.add 27 f_l_bad_rows
abbrev g_l_outside : Sig := ⟨"_law_outside", [false, false, false], 0, none, false⟩
abbrev N_l_outside : List Str := ["_law_words_here", "_law_top", "_law_cell", "_law_other", "_law_some", "_law_name", "_law_word"]
abbrev Q_l_outside : Pg := P28
def f_l_outside (ds : List Dat) : Res Dat := runF Q_l_outside 7 [false, false, false] false b_l_outside ds
def P29 : Pg := P28.add 28 f_l_outside
abbrev g_l_clash : Sig := ⟨"_law_clash", [false, false], 0, none, false⟩
abbrev N_l_clash : List Str := ["_law_rows_here", "_law_cell", "_law_row_here"]
abbrev Q_l_clash : Pg := P29
def f_l_clash (ds : List Dat) : Res Dat := runF Q_l_clash 3 [false, false] false b_l_clash ds
def P30 : Pg := P29.add 29 f_l_clash
abbrev g_l_wrong : Sig := ⟨"_law_wrong", [false, false, false, false], 0, none, false⟩
abbrev N_l_wrong : List Str := ["_law_words_here", "_law_top", "_law_rows_here", "_law_cell", "_law_name", "_law_way", "_law_deep", "_law_at", "_law_text"]
abbrev Q_l_wrong : Pg := P30
def f_l_wrong (ds : List Dat) : Res Dat := runF Q_l_wrong 9 [false, false, false, false] false b_l_wrong ds
def P31 : Pg := P30.add 30 f_l_wrong
abbrev g_l_wrong_first : Sig := ⟨"_law_wrong_first", [false, false], 0, none, false⟩
abbrev N_l_wrong_first : List Str := ["_law_top", "_law_cell", "_law_name", "_law_some"]
abbrev Q_l_wrong_first : Pg := P31
def f_l_wrong_first (ds : List Dat) : Res Dat := runF Q_l_wrong_first 4 [false, false] false b_l_wrong_first ds
def P32 : Pg := P31.add 31 f_l_wrong_first
abbrev g_l_passed : Sig := ⟨"_law_passed", [false, false], 0, none, false⟩
abbrev N_l_passed : List Str := ["_law_many", "_law_cell", "_law_k"]
abbrev Q_l_passed : Pg := P32
def f_l_passed (ds : List Dat) : Res Dat := runF Q_l_passed 3 [false, false] false b_l_passed ds
def P33 : Pg := P32.add 32 f_l_passed
abbrev g_l_refused : Sig := ⟨"_law_refused", [false], 0, none, false⟩
abbrev N_l_refused : List Str := ["_law_text", "_law_found", "e"]
abbrev Q_l_refused : Pg := P33
def f_l_refused (ds : List Dat) : Res Dat := runF Q_l_refused 3 [false] false b_l_refused ds
def P34 : Pg := P33.add 33 f_l_refused
abbrev g_l_due : Sig := ⟨"_law_due", [false, false], 0, none, false⟩
abbrev N_l_due : List Str := ["_law_number", "_law_way", "_law_some", "_law_one"]
abbrev Q_l_due : Pg := P34
def f_l_due (ds : List Dat) : Res Dat := runF Q_l_due 4 [false, false] false b_l_due ds
def P35 : Pg := P34.add 34 f_l_due
abbrev g_l_is_refused : Sig := ⟨"_law_is_refused", [false, false, false], 0, none, false⟩
abbrev N_l_is_refused : List Str := ["_law_text", "_law_number", "_law_way", "_law_found"]
abbrev Q_l_is_refused : Pg := P35
def f_l_is_refused (ds : List Dat) : Res Dat := runF Q_l_is_refused 4 [false, false, false] false b_l_is_refused ds
def P36 : Pg := P35.add 35 f_l_is_refused
abbrev g_l_is_zone : Sig := ⟨"_law_is_zone", [false, false, false, false], 0, none, false⟩
abbrev N_l_is_zone : List Str := ["_law_found", "_law_top", "_law_life", "_law_rows_here"]
abbrev Q_l_is_zone : Pg := P36
def f_l_is_zone (ds : List Dat) : Res Dat := runF Q_l_is_zone 4 [false, false, false, false] false b_l_is_zone ds
def P37 : Pg := P36.add 36 f_l_is_zone
abbrev g_law : Sig := ⟨"law", [false], 0, none, false⟩
abbrev N_law : List Str := ["_law_script", "_law_words_here", "_law_top", "_law_life", "_law_rows_here", "_law_cell", "_law_lead", "_law_good", "_law_at", "_law_line_here", "_law_way", "_law_more", "_law_wrong_here", "_law_row_here"]
abbrev Q_law : Pg := P37
def f_law (ds : List Dat) : Res Dat := runF Q_law 14 [false] false b_law ds
def P38 : Pg := P37.add 37 f_law
@[simp] theorem Q_p_read_name_1 : Q_p_read_name.F 1 = f_p_is_word := rfl
@[simp] theorem Q_p_read_name_2 : Q_p_read_name.F 2 = f_p_beneath_top := rfl
@[simp] theorem Q_p_name_at_3 : Q_p_name_at.F 3 = f_p_read_name := rfl
@[simp] theorem Q_p_life_at_6 : Q_p_life_at.F 6 = f_p_read_life := rfl
@[simp] theorem Q_p_value_at_5 : Q_p_value_at.F 5 = f_p_is_value := rfl
@[simp] theorem Q_p_value_at_9 : Q_p_value_at.F 9 = f_p_name_at := rfl
@[simp] theorem Q_p_head_of_8 : Q_p_head_of.F 8 = f_p_words_of := rfl
@[simp] theorem Q_p_head_of_9 : Q_p_head_of.F 9 = f_p_name_at := rfl
@[simp] theorem Q_p_head_of_10 : Q_p_head_of.F 10 = f_p_life_at := rfl
@[simp] theorem Q_p_parts_of_0 : Q_p_parts_of.F 0 = f_p_at_or_beneath := rfl
@[simp] theorem Q_p_parts_of_8 : Q_p_parts_of.F 8 = f_p_words_of := rfl
@[simp] theorem Q_p_parts_of_9 : Q_p_parts_of.F 9 = f_p_name_at := rfl
@[simp] theorem Q_p_row_of_4 : Q_p_row_of.F 4 = f_p_is_kind := rfl
@[simp] theorem Q_p_row_of_10 : Q_p_row_of.F 10 = f_p_life_at := rfl
@[simp] theorem Q_p_row_of_11 : Q_p_row_of.F 11 = f_p_value_at := rfl
@[simp] theorem Q_p_row_of_13 : Q_p_row_of.F 13 = f_p_parts_of := rfl
@[simp] theorem Q_p_row_of_14 : Q_p_row_of.F 14 = f_p_clashes := rfl
@[simp] theorem Q_p_read_zone_7 : Q_p_read_zone.F 7 = f_p_is_passed_over := rfl
@[simp] theorem Q_p_read_zone_12 : Q_p_read_zone.F 12 = f_p_head_of := rfl
@[simp] theorem Q_p_read_zone_15 : Q_p_read_zone.F 15 = f_p_row_of := rfl
@[simp] theorem Q_l_words_18 : Q_l_words.F 18 = f_l_part := rfl
@[simp] theorem Q_l_below_18 : Q_l_below.F 18 = f_l_part := rfl
@[simp] theorem Q_l_row_18 : Q_l_row.F 18 = f_l_part := rfl
@[simp] theorem Q_l_row_20 : Q_l_row.F 20 = f_l_below := rfl
@[simp] theorem Q_l_rows_21 : Q_l_rows.F 21 = f_l_row := rfl
@[simp] theorem Q_l_rows_22 : Q_l_rows.F 22 = f_l_fits := rfl
@[simp] theorem Q_l_line_24 : Q_l_line.F 24 = f_l_name_text := rfl
@[simp] theorem Q_l_bad_name_24 : Q_l_bad_name.F 24 = f_l_name_text := rfl
@[simp] theorem Q_l_outside_24 : Q_l_outside.F 24 = f_l_name_text := rfl
@[simp] theorem Q_l_clash_24 : Q_l_clash.F 24 = f_l_name_text := rfl
@[simp] theorem Q_l_clash_25 : Q_l_clash.F 25 = f_l_line := rfl
@[simp] theorem Q_l_wrong_24 : Q_l_wrong.F 24 = f_l_name_text := rfl
@[simp] theorem Q_l_wrong_26 : Q_l_wrong.F 26 = f_l_bad_name := rfl
@[simp] theorem Q_l_wrong_27 : Q_l_wrong.F 27 = f_l_bad_rows := rfl
@[simp] theorem Q_l_wrong_28 : Q_l_wrong.F 28 = f_l_outside := rfl
@[simp] theorem Q_l_wrong_29 : Q_l_wrong.F 29 = f_l_clash := rfl
@[simp] theorem Q_l_wrong_first_24 : Q_l_wrong_first.F 24 = f_l_name_text := rfl
@[simp] theorem Q_l_wrong_first_26 : Q_l_wrong_first.F 26 = f_l_bad_name := rfl
@[simp] theorem Q_l_refused_16 : Q_l_refused.F 16 = f_p_read_zone := rfl
@[simp] theorem Q_l_is_refused_33 : Q_l_is_refused.F 33 = f_l_refused := rfl
@[simp] theorem Q_l_is_refused_34 : Q_l_is_refused.F 34 = f_l_due := rfl
@[simp] theorem Q_law_16 : Q_law.F 16 = f_p_read_zone := rfl
@[simp] theorem Q_law_17 : Q_law.F 17 = f_l_cell_at := rfl
@[simp] theorem Q_law_18 : Q_law.F 18 = f_l_part := rfl
@[simp] theorem Q_law_19 : Q_law.F 19 = f_l_words := rfl
@[simp] theorem Q_law_20 : Q_law.F 20 = f_l_below := rfl
@[simp] theorem Q_law_23 : Q_law.F 23 = f_l_rows := rfl
@[simp] theorem Q_law_24 : Q_law.F 24 = f_l_name_text := rfl
@[simp] theorem Q_law_25 : Q_law.F 25 = f_l_line := rfl
@[simp] theorem Q_law_30 : Q_law.F 30 = f_l_wrong := rfl
@[simp] theorem Q_law_31 : Q_law.F 31 = f_l_wrong_first := rfl
@[simp] theorem Q_law_32 : Q_law.F 32 = f_l_passed := rfl
@[simp] theorem Q_law_35 : Q_law.F 35 = f_l_is_refused := rfl
@[simp] theorem Q_law_36 : Q_law.F 36 = f_l_is_zone := rfl
@[simp] theorem Q_p_at_or_beneath_C : Q_p_at_or_beneath.C = cs := rfl
@[simp] theorem Q_p_is_word_C : Q_p_is_word.C = cs := rfl
@[simp] theorem Q_p_beneath_top_C : Q_p_beneath_top.C = cs := rfl
@[simp] theorem Q_p_read_name_C : Q_p_read_name.C = cs := rfl
@[simp] theorem Q_p_is_kind_C : Q_p_is_kind.C = cs := rfl
@[simp] theorem Q_p_is_value_C : Q_p_is_value.C = cs := rfl
@[simp] theorem Q_p_read_life_C : Q_p_read_life.C = cs := rfl
@[simp] theorem Q_p_is_passed_over_C : Q_p_is_passed_over.C = cs := rfl
@[simp] theorem Q_p_words_of_C : Q_p_words_of.C = cs := rfl
@[simp] theorem Q_p_name_at_C : Q_p_name_at.C = cs := rfl
@[simp] theorem Q_p_life_at_C : Q_p_life_at.C = cs := rfl
@[simp] theorem Q_p_value_at_C : Q_p_value_at.C = cs := rfl
@[simp] theorem Q_p_head_of_C : Q_p_head_of.C = cs := rfl
@[simp] theorem Q_p_parts_of_C : Q_p_parts_of.C = cs := rfl
@[simp] theorem Q_p_clashes_C : Q_p_clashes.C = cs := rfl
@[simp] theorem Q_p_row_of_C : Q_p_row_of.C = cs := rfl
@[simp] theorem Q_p_read_zone_C : Q_p_read_zone.C = cs := rfl
@[simp] theorem Q_l_cell_at_C : Q_l_cell_at.C = cs := rfl
@[simp] theorem Q_l_part_C : Q_l_part.C = cs := rfl
@[simp] theorem Q_l_words_C : Q_l_words.C = cs := rfl
@[simp] theorem Q_l_below_C : Q_l_below.C = cs := rfl
@[simp] theorem Q_l_row_C : Q_l_row.C = cs := rfl
@[simp] theorem Q_l_fits_C : Q_l_fits.C = cs := rfl
@[simp] theorem Q_l_rows_C : Q_l_rows.C = cs := rfl
@[simp] theorem Q_l_name_text_C : Q_l_name_text.C = cs := rfl
@[simp] theorem Q_l_line_C : Q_l_line.C = cs := rfl
@[simp] theorem Q_l_bad_name_C : Q_l_bad_name.C = cs := rfl
@[simp] theorem Q_l_bad_rows_C : Q_l_bad_rows.C = cs := rfl
@[simp] theorem Q_l_outside_C : Q_l_outside.C = cs := rfl
@[simp] theorem Q_l_clash_C : Q_l_clash.C = cs := rfl
@[simp] theorem Q_l_wrong_C : Q_l_wrong.C = cs := rfl
@[simp] theorem Q_l_wrong_first_C : Q_l_wrong_first.C = cs := rfl
@[simp] theorem Q_l_passed_C : Q_l_passed.C = cs := rfl
@[simp] theorem Q_l_refused_C : Q_l_refused.C = cs := rfl
@[simp] theorem Q_l_due_C : Q_l_due.C = cs := rfl
@[simp] theorem Q_l_is_refused_C : Q_l_is_refused.C = cs := rfl
@[simp] theorem Q_l_is_zone_C : Q_l_is_zone.C = cs := rfl
@[simp] theorem Q_law_C : Q_law.C = cs := rfl
@[simp] theorem Q_p_at_or_beneath_X : Q_p_at_or_beneath.X = xm := rfl
@[simp] theorem Q_p_at_or_beneath_I : Q_p_at_or_beneath.I = xi := rfl
@[simp] theorem Q_p_is_word_X : Q_p_is_word.X = xm := rfl
@[simp] theorem Q_p_is_word_I : Q_p_is_word.I = xi := rfl
@[simp] theorem Q_p_beneath_top_X : Q_p_beneath_top.X = xm := rfl
@[simp] theorem Q_p_beneath_top_I : Q_p_beneath_top.I = xi := rfl
@[simp] theorem Q_p_read_name_X : Q_p_read_name.X = xm := rfl
@[simp] theorem Q_p_read_name_I : Q_p_read_name.I = xi := rfl
@[simp] theorem Q_p_is_kind_X : Q_p_is_kind.X = xm := rfl
@[simp] theorem Q_p_is_kind_I : Q_p_is_kind.I = xi := rfl
@[simp] theorem Q_p_is_value_X : Q_p_is_value.X = xm := rfl
@[simp] theorem Q_p_is_value_I : Q_p_is_value.I = xi := rfl
@[simp] theorem Q_p_read_life_X : Q_p_read_life.X = xm := rfl
@[simp] theorem Q_p_read_life_I : Q_p_read_life.I = xi := rfl
@[simp] theorem Q_p_is_passed_over_X : Q_p_is_passed_over.X = xm := rfl
@[simp] theorem Q_p_is_passed_over_I : Q_p_is_passed_over.I = xi := rfl
@[simp] theorem Q_p_words_of_X : Q_p_words_of.X = xm := rfl
@[simp] theorem Q_p_words_of_I : Q_p_words_of.I = xi := rfl
@[simp] theorem Q_p_name_at_X : Q_p_name_at.X = xm := rfl
@[simp] theorem Q_p_name_at_I : Q_p_name_at.I = xi := rfl
@[simp] theorem Q_p_life_at_X : Q_p_life_at.X = xm := rfl
@[simp] theorem Q_p_life_at_I : Q_p_life_at.I = xi := rfl
@[simp] theorem Q_p_value_at_X : Q_p_value_at.X = xm := rfl
@[simp] theorem Q_p_value_at_I : Q_p_value_at.I = xi := rfl
@[simp] theorem Q_p_head_of_X : Q_p_head_of.X = xm := rfl
@[simp] theorem Q_p_head_of_I : Q_p_head_of.I = xi := rfl
@[simp] theorem Q_p_parts_of_X : Q_p_parts_of.X = xm := rfl
@[simp] theorem Q_p_parts_of_I : Q_p_parts_of.I = xi := rfl
@[simp] theorem Q_p_clashes_X : Q_p_clashes.X = xm := rfl
@[simp] theorem Q_p_clashes_I : Q_p_clashes.I = xi := rfl
@[simp] theorem Q_p_row_of_X : Q_p_row_of.X = xm := rfl
@[simp] theorem Q_p_row_of_I : Q_p_row_of.I = xi := rfl
@[simp] theorem Q_p_read_zone_X : Q_p_read_zone.X = xm := rfl
@[simp] theorem Q_p_read_zone_I : Q_p_read_zone.I = xi := rfl
@[simp] theorem Q_l_cell_at_X : Q_l_cell_at.X = xm := rfl
@[simp] theorem Q_l_cell_at_I : Q_l_cell_at.I = xi := rfl
@[simp] theorem Q_l_part_X : Q_l_part.X = xm := rfl
@[simp] theorem Q_l_part_I : Q_l_part.I = xi := rfl
@[simp] theorem Q_l_words_X : Q_l_words.X = xm := rfl
@[simp] theorem Q_l_words_I : Q_l_words.I = xi := rfl
@[simp] theorem Q_l_below_X : Q_l_below.X = xm := rfl
@[simp] theorem Q_l_below_I : Q_l_below.I = xi := rfl
@[simp] theorem Q_l_row_X : Q_l_row.X = xm := rfl
@[simp] theorem Q_l_row_I : Q_l_row.I = xi := rfl
@[simp] theorem Q_l_fits_X : Q_l_fits.X = xm := rfl
@[simp] theorem Q_l_fits_I : Q_l_fits.I = xi := rfl
@[simp] theorem Q_l_rows_X : Q_l_rows.X = xm := rfl
@[simp] theorem Q_l_rows_I : Q_l_rows.I = xi := rfl
@[simp] theorem Q_l_name_text_X : Q_l_name_text.X = xm := rfl
@[simp] theorem Q_l_name_text_I : Q_l_name_text.I = xi := rfl
@[simp] theorem Q_l_line_X : Q_l_line.X = xm := rfl
@[simp] theorem Q_l_line_I : Q_l_line.I = xi := rfl
@[simp] theorem Q_l_bad_name_X : Q_l_bad_name.X = xm := rfl
@[simp] theorem Q_l_bad_name_I : Q_l_bad_name.I = xi := rfl
@[simp] theorem Q_l_bad_rows_X : Q_l_bad_rows.X = xm := rfl
@[simp] theorem Q_l_bad_rows_I : Q_l_bad_rows.I = xi := rfl
@[simp] theorem Q_l_outside_X : Q_l_outside.X = xm := rfl
@[simp] theorem Q_l_outside_I : Q_l_outside.I = xi := rfl
@[simp] theorem Q_l_clash_X : Q_l_clash.X = xm := rfl
@[simp] theorem Q_l_clash_I : Q_l_clash.I = xi := rfl
@[simp] theorem Q_l_wrong_X : Q_l_wrong.X = xm := rfl
@[simp] theorem Q_l_wrong_I : Q_l_wrong.I = xi := rfl
@[simp] theorem Q_l_wrong_first_X : Q_l_wrong_first.X = xm := rfl
@[simp] theorem Q_l_wrong_first_I : Q_l_wrong_first.I = xi := rfl
@[simp] theorem Q_l_passed_X : Q_l_passed.X = xm := rfl
@[simp] theorem Q_l_passed_I : Q_l_passed.I = xi := rfl
@[simp] theorem Q_l_refused_X : Q_l_refused.X = xm := rfl
@[simp] theorem Q_l_refused_I : Q_l_refused.I = xi := rfl
@[simp] theorem Q_l_due_X : Q_l_due.X = xm := rfl
@[simp] theorem Q_l_due_I : Q_l_due.I = xi := rfl
@[simp] theorem Q_l_is_refused_X : Q_l_is_refused.X = xm := rfl
@[simp] theorem Q_l_is_refused_I : Q_l_is_refused.I = xi := rfl
@[simp] theorem Q_l_is_zone_X : Q_l_is_zone.X = xm := rfl
@[simp] theorem Q_l_is_zone_I : Q_l_is_zone.I = xi := rfl
@[simp] theorem Q_law_X : Q_law.X = xm := rfl
@[simp] theorem Q_law_I : Q_law.I = xi := rfl
@[simp] theorem cs_0 : cs 0 = .int 12 := rfl
@[simp] theorem cs_1 : cs 1 = .str "abcdefghijklmnopqrstuvwxyz0123456789-" := rfl
@[simp] theorem cs_2 : cs 2 = .int 10 := rfl
@[simp] theorem cs_3 : cs 3 = .int 8 := rfl
@[simp] theorem cs_4 : cs 4 = .str "abcdefghijklmnopqrstuvwxyz" := rfl
@[simp] theorem cs_5 : cs 5 = .int 40 := rfl
@[simp] theorem cs_6 : cs 6 = .int 9 := rfl
@[simp] theorem cs_7 : cs 7 = .str "0123456789" := rfl
@[simp] theorem cs_8 : cs 8 = .tuple [.str "else", .str "down"] := rfl
def T : Tx := ⟨[g_p_at_or_beneath, g_p_is_word, g_p_beneath_top, g_p_read_name, g_p_is_kind, g_p_is_value, g_p_read_life, g_p_is_passed_over, g_p_words_of, g_p_name_at, g_p_life_at, g_p_value_at, g_p_head_of, g_p_parts_of, g_p_clashes, g_p_row_of, g_p_read_zone, g_l_cell_at, g_l_part, g_l_words, g_l_below, g_l_row, g_l_fits, g_l_rows, g_l_name_text, g_l_line, g_l_bad_name, g_l_bad_rows, g_l_outside, g_l_clash, g_l_wrong, g_l_wrong_first, g_l_passed, g_l_refused, g_l_due, g_l_is_refused, g_l_is_zone, g_law], ["LONGEST", "SIGNS", "DEEPEST", "LONGEST_KIND", "LETTERS", "LONGEST_VALUE", "LONGEST_LIFE", "FIGURES", "POINTING"], ["NoName"], ["BadName", "BadRow", "Outside", "BadCut", "Clash", "ZoneError"], false⟩
end NK14
end

section
set_option maxHeartbeats 4000000
namespace NK14
open PySem PySem.Spec NW
abbrev nm (ws : List Str) : Dat := .tuple (ws.map .str)
def cell (ns : List Int) (k : Nat) : Int := ns.getD k 0
theorem r_cell (ns : List Int) (k : Nat) : f_l_cell_at [.list (ns.map .int), .int k] = .ok (.int (cell ns k)) := by
  unfold cell
  by_cases h : k < ns.length <;> simp [f_l_cell_at, b_l_cell_at, atI_nat, h]
def signs : List Nat := (Str.ofString "abcdefghijklmnopqrstuvwxyz0123456789-").cps.toList
theorem signs_len : signs.length = 37 := by decide +kernel
theorem signs_s : Str.ofString "abcdefghijklmnopqrstuvwxyz0123456789-" = tx signs := (tx_of _).symm
theorem empty_s : Str.ofString "" = tx [] := (tx_of _).symm
theorem one_s (c : Nat) : (⟨#[c]⟩ : Str) = tx [c] := rfl
theorem at_signs (x : Int) : L2.atI signs (x % 37) = some (signs.getD (x % 37).toNat 0) := atI_some _ _ _ (by omega) (by rw [signs_len]; omega)
theorem at_mem (x : Int) : signs.getD (x % 37).toNat 0 ∈ signs := by
  have h : (x % 37).toNat < signs.length := by rw [signs_len]; omega
  rw [List.getD_eq_getElem?_getD, List.getElem?_eq_getElem h]
  exact List.getElem_mem h
structure GoodW (w : Str) : Prop where
  lo : 1 ≤ w.length
  hi : w.length ≤ 12
  mem : ∀ x ∈ w.cps.toList, x ∈ signs
theorem at_chr (s : Str) (i : Int) (h : 0 ≤ i) (h' : i < s.cps.toList.length) (hs : s.cps.toList.length ≤ 1000) : ∃ x ∈ s.cps.toList, ixD (.str s) (.int i) = .ok (.str (tx [x])) := by
  obtain ⟨n, rfl⟩ := Int.eq_ofNat_of_zero_le h
  have hn : n < s.cps.toList.length := by omega
  refine ⟨s.cps.toList[n], List.getElem_mem hn, ?_⟩
  have e : L2.atI s.cps.toList (n : Int) = some s.cps.toList[n] := by rw [atI_nat, List.getElem?_eq_getElem hn]
  have hl : s.length ≤ 1000000 := by rw [str_len]; omega
  simp only [ixD, e, if_pos hl]
  rfl
def part (c k m : Int) : Int := (c % 99991 + 17) * (48271 + 7919 * k) % 65537 * (k + 3) % 8191 % m
theorem r_part (c k m : Int) (hm : 0 < m) : f_l_part [.int c, .int k, .int m] = .ok (.int (part c k m)) := by
  have h1 : ∀ y : Int, binD .mul (.int (c % 99991 + 17)) (.int y) = .ok (.int ((c % 99991 + 17) * y)) := fun y => bin_mul' _ _ (by omega)
  have h2 : ∀ x y : Int, binD .mul (.int (x % 65537)) (.int y) = .ok (.int (x % 65537 * y)) := fun x y => bin_mul' _ _ (by omega)
  have h3 : ∀ y : Int, binD .mul (.int 7919) (.int y) = .ok (.int (7919 * y)) := fun y => bin_mul' _ _ (by omega)
  simp [f_l_part, b_l_part, bin_mod, h1, h2, h3, bin_mod _ _ hm, part]
theorem part_lo (c k m : Int) (hm : 0 < m) : 0 ≤ part c k m := Int.emod_nonneg _ (by omega)
theorem part_hi (c k m : Int) (hm : 0 < m) : part c k m < m := Int.emod_lt_of_pos _ hm
theorem at_strs (W : List Str) (i : Int) (h : 0 ≤ i) (h' : i < W.length) : ∃ w ∈ W, L2.atI (W.map PyData.str) i = some (.str w) := by
  obtain ⟨n, rfl⟩ := Int.eq_ofNat_of_zero_le h
  have hn : n < W.length := by omega
  refine ⟨W[n], List.getElem_mem hn, ?_⟩
  rw [atI_nat]
  simp [hn]
def wl (a t : Int) (n k : Nat) : List Nat := (List.range n).map fun j : Nat => signs.getD ((part a ((j : Int) + 2) 37 + (if (j : Int) = t then (k : Int) else 0)) % 37).toNat 0
theorem wl_len (a t : Int) (n k : Nat) : (wl a t n k).length = n := by simp [wl]
theorem wl_mem (a t : Int) (n k : Nat) : ∀ x ∈ wl a t n k, x ∈ signs := fun x hx => by
  obtain ⟨j, _, rfl⟩ := List.mem_map.mp hx
  exact at_mem _
theorem signs_inj : ∀ i j : Fin 37, signs.getD i.val 0 = signs.getD j.val 0 → i = j := by decide +kernel
theorem wl_ne (a t : Int) (n : Nat) (h0 : 0 ≤ t) (h1 : t < n) : tx (wl a t n 0) ≠ tx (wl a t n 1) := fun h => by
  rw [tx_eq] at h
  have q := congrArg (fun l => l[t.toNat]?) h
  have ht : t.toNat < n := by omega
  have et : ((t.toNat : Nat) : Int) = t := by omega
  simp only [wl, List.getElem?_map, List.getElem?_range ht, Option.map_some, Option.some.injEq, et, if_true] at q
  generalize part a (t + 2) 37 = z at q
  have := signs_inj ⟨((z + ((0 : Nat) : Int)) % 37).toNat, by omega⟩ ⟨((z + ((1 : Nat) : Int)) % 37).toNat, by omega⟩ q
  simp only [Fin.mk.injEq] at this
  omega
theorem r_words (a b : Int) : ∃ W : List Str, f_l_words [.int a, .int b] = .ok (.list (W.map .str)) ∧ W.length = 4 ∧ (∀ w ∈ W, GoodW w) ∧ ∃ u ∈ W, ∃ v ∈ W, u ≠ v := by
  have p0 := r_part a 0 12 (by omega)
  have l0 := part_lo a 0 12 (by omega)
  have u0 := part_hi a 0 12 (by omega)
  generalize part a 0 12 = q at *
  obtain ⟨n, hn⟩ := Int.eq_ofNat_of_zero_le (a := 1 + q) (by omega)
  have p1 := r_part b 1 (n : Int) (by omega)
  have lt := part_lo b 1 (n : Int) (by omega)
  have ut := part_hi b 1 (n : Int) (by omega)
  generalize part b 1 (n : Int) = t at *
  have inner : ∀ (W : List Dat) (k : Nat), exS Q_l_words w0_l_words [.fz (.int a), .fz (.int b), .fz (.str (tx signs)), .fz (.int n), .fz (.int t), .ow W, .fz (.int k), .fz (.str (tx [])), .un, .un]
      = .nx [.fz (.int a), .fz (.int b), .fz (.str (tx signs)), .fz (.int n), .fz (.int t), .ow W, .fz (.int k), .fz (.str (tx (wl a t n k))), .un, .un] := fun W k => by
    refine for_st (fun i : Nat => PyData.int (i : Int)) (List.range n) (fun l : List Nat => [Sl.fz (.int a), .fz (.int b), .fz (.str (tx signs)), .fz (.int n), .fz (.int t), .ow W, .fz (.int k), .fz (.str (tx l)), .un, .un]) (fun r l => l ++ (r.map fun j : Nat => signs.getD ((part a ((j : Int) + 2) 37 + (if (j : Int) = t then (k : Int) else 0)) % 37).toNat 0) = wl a t n k)
      (fun o => o = .nx [.fz (.int a), .fz (.int b), .fz (.str (tx signs)), .fz (.int n), .fz (.int t), .ow W, .fz (.int k), .fz (.str (tx (wl a t n k))), .un, .un]) [] ?_ rfl rfl (fun l h => by
        rw [List.map_nil, List.append_nil] at h
        rw [h]) fun j r l h => ⟨_, rfl, .inl ?_⟩
    · simp
      exact r1R_nat (by omega)
    · have pj := r_part a ((j : Int) + 2) 37 (by omega)
      have bl : l.length + 1 ≤ 1000000 := by
        have := congrArg List.length h
        rw [wl_len] at this
        simp at this
        omega
      rw [List.map_cons, ← List.singleton_append, ← List.append_assoc] at h
      by_cases e : (j : Int) = t
      · rw [if_pos e] at h
        generalize part a ((j : Int) + 2) 37 = z at *
        refine ⟨l ++ [signs.getD ((z + k) % 37).toNat 0], [.fz (.int a), .fz (.int b), .fz (.str (tx signs)), .fz (.int n), .fz (.int t), .ow W, .fz (.int k), .fz (.str (tx (l ++ [signs.getD ((z + k) % 37).toNat 0]))), .fz (.int j), .fz (.int (z + k))], .inl ?_, rfl, h⟩
        subst e
        simp [v0_l_words, pj, bin_mod, signs_len, at_signs, one_s, bin_cat, bl, tx_cat]
      · rw [if_neg e, Int.add_zero] at h
        generalize part a ((j : Int) + 2) 37 = z at *
        refine ⟨l ++ [signs.getD (z % 37).toNat 0], [.fz (.int a), .fz (.int b), .fz (.str (tx signs)), .fz (.int n), .fz (.int t), .ow W, .fz (.int k), .fz (.str (tx (l ++ [signs.getD (z % 37).toNat 0]))), .fz (.int j), .fz (.int z)], .inl ?_, rfl, h⟩
        simp [v0_l_words, pj, e, bin_mod, signs_len, at_signs, one_s, bin_cat, bl, tx_cat]
  have outer : exS Q_l_words w1_l_words [.fz (.int a), .fz (.int b), .fz (.str (tx signs)), .fz (.int n), .fz (.int t), .ow [], .un, .un, .un, .un]
      = .nx [.fz (.int a), .fz (.int b), .fz (.str (tx signs)), .fz (.int n), .fz (.int t), .ow (((List.range 4).map fun k : Nat => tx (wl a t n k)).map .str), .un, .un, .un, .un] := by
    refine for_st (fun i : Nat => PyData.int (i : Int)) (List.range 4) (fun W : List Str => [Sl.fz (.int a), .fz (.int b), .fz (.str (tx signs)), .fz (.int n), .fz (.int t), .ow (W.map .str), .un, .un, .un, .un]) (fun r W => W ++ (r.map fun k : Nat => tx (wl a t n k)) = (List.range 4).map fun k : Nat => tx (wl a t n k))
      (fun o => o = .nx [.fz (.int a), .fz (.int b), .fz (.str (tx signs)), .fz (.int n), .fz (.int t), .ow (((List.range 4).map fun k : Nat => tx (wl a t n k)).map .str), .un, .un, .un, .un]) [] ?_ rfl rfl (fun l h => by
        rw [List.map_nil, List.append_nil] at h
        rw [h]) fun j r W h => ⟨_, rfl, .inl ?_⟩
    · simp
      exact r1R_nat (n := 4) (by omega)
    · have h3 := inner (W.map .str) j
      have hW : W.length < 1000000 := by
        have := congrArg List.length h
        simp at this
        omega
      rw [List.map_cons, ← List.singleton_append, ← List.append_assoc] at h
      generalize wl a t n j = l at *
      refine ⟨W ++ [tx l], [.fz (.int a), .fz (.int b), .fz (.str (tx signs)), .fz (.int n), .fz (.int t), .ow ((W ++ [tx l]).map .str), .fz (.int j), .fz (.str (tx l)), .un, .un], .inl ?_, rfl, h⟩
      simp [v1_l_words, empty_s, h3, hW]
  have hgood : ∀ w ∈ (List.range 4).map fun k : Nat => tx (wl a t n k), GoodW w ∧ w.length = n := fun w hw => by
    obtain ⟨k, _, rfl⟩ := List.mem_map.mp hw
    have := wl_len a t n k
    exact ⟨⟨by rw [tx_len]; omega, by rw [tx_len]; omega, fun x hx => wl_mem a t n k x (by simpa using hx)⟩, by rw [tx_len]; exact this⟩
  have hdiff : ∃ u ∈ (List.range 4).map fun k : Nat => tx (wl a t n k), ∃ v ∈ (List.range 4).map fun k : Nat => tx (wl a t n k), u ≠ v :=
    ⟨_, List.mem_map.mpr ⟨0, by simp, rfl⟩, _, List.mem_map.mpr ⟨1, by simp, rfl⟩, wl_ne a t n lt ut⟩
  obtain ⟨W, h1, h2, h4, h3⟩ : ∃ W : List Str, W.length = 4 ∧ (∀ w ∈ W, GoodW w ∧ w.length = n) ∧ (∃ u ∈ W, ∃ v ∈ W, u ≠ v) ∧ exS Q_l_words w1_l_words [.fz (.int a), .fz (.int b), .fz (.str (tx signs)), .fz (.int n), .fz (.int t), .ow [], .un, .un, .un, .un]
      = .nx [.fz (.int a), .fz (.int b), .fz (.str (tx signs)), .fz (.int n), .fz (.int t), .ow (W.map .str), .un, .un, .un, .un] := ⟨_, by simp, hgood, hdiff, outer⟩
  by_cases g : (3 : Int) < n ∧ b % 2 = 1
  · obtain ⟨g1, g2⟩ := g
    have hW0 : 0 < W.length := by omega
    obtain ⟨w0, hw0, hq⟩ := at_strs W 0 (by omega) (by omega)
    have gw := h2 w0 hw0
    obtain ⟨l, rfl⟩ : ∃ l, w0 = tx l := ⟨_, (tx_of w0).symm⟩
    have hl : l.length = n := by have := gw.2; rwa [tx_len] at this
    have he : ev Q_l_words e0_l_words [.fz (.int a), .fz (.int b), .fz (.str (tx signs)), .fz (.int n), .fz (.int t), .fz (.list (W.map .str)), .un, .un, .un, .un] = .ok (.list (((List.range 4).map fun k => tx (l.take (n - k))).map .str)) := by
      rw [List.map_map]
      refine lc_map (fun i : Nat => PyData.int (i : Int)) (fun k => PyData.str (tx (l.take (n - k)))) (List.range 4) ?_ (by simp) fun k hk => ⟨_, rfl, ?_, ?_⟩
      · simp
        exact r1R_nat (n := 4) (by omega)
      · simp
      · have hk' := List.mem_range.mp hk
        have e : (n : Int) - (k : Int) = ((n - k : Nat) : Int) := by omega
        have q1 : l.length ≤ 1000000 := by omega
        have e2 : L2.cutS (tx l) none (some ((n : Int) - (k : Int))) = tx (l.take (n - k)) := by rw [e, cutS_tx, cut_to]
        simp [hq, q1, e2]
    refine ⟨(List.range 4).map fun k => tx (l.take (n - k)), ?_, by simp, fun w hw => ?_, ?_⟩
    · simp [f_l_words, b_l_words, signs_s, p0, hn, p1, h3, g1, g2, bin_mod, he]
    · obtain ⟨k, hk, rfl⟩ := List.mem_map.mp hw
      have hk' := List.mem_range.mp hk
      have hlen : (tx (l.take (n - k))).length = n - k := by rw [tx_len, List.length_take]; omega
      refine ⟨by rw [hlen]; omega, by rw [hlen]; omega, fun x hx => ?_⟩
      rw [tx_list] at hx
      exact gw.1.mem x (by rw [tx_list]; exact List.mem_of_mem_take hx)
    · refine ⟨tx (l.take (n - 0)), List.mem_map.mpr ⟨0, by simp, rfl⟩, tx (l.take (n - 1)), List.mem_map.mpr ⟨1, by simp, rfl⟩, fun e => ?_⟩
      rw [tx_eq] at e
      have := congrArg List.length e
      rw [List.length_take, List.length_take] at this
      omega
  · refine ⟨W, ?_, h1, fun w hw => (h2 w hw).1, h4⟩
    by_cases g1 : (3 : Int) < n
    · have g2 : ¬ b % 2 = 1 := fun h => g ⟨g1, h⟩
      simp [f_l_words, b_l_words, signs_s, p0, hn, p1, h3, g1, g2, bin_mod]
    · simp [f_l_words, b_l_words, signs_s, p0, hn, p1, h3, g1]
theorem r_below (W : List Str) (hW : W.length = 4) (c k m : Int) (hm : 0 ≤ m) (hm' : m ≤ 100) : ∃ N : List Str, f_l_below [.list (W.map .str), .int c, .int k, .int m] = .ok (nm N) ∧ N.length = m.toNat ∧ ∀ w ∈ N, w ∈ W := by
  obtain ⟨n, rfl⟩ := Int.eq_ofNat_of_zero_le hm
  have hw : ∃ N : List Str, N.length = n ∧ (∀ w ∈ N, w ∈ W) ∧ exS Q_l_below w0_l_below [.fz (.list (W.map .str)), .fz (.int c), .fz (.int k), .fz (.int n), .fz (nm []), .un] = .nx [.fz (.list (W.map .str)), .fz (.int c), .fz (.int k), .fz (.int n), .fz (nm N), .un] := by
    refine for_st (fun i : Nat => PyData.int (i : Int)) (List.range n) (fun N : List Str => [Sl.fz (.list (W.map .str)), .fz (.int c), .fz (.int k), .fz (.int n), .fz (nm N), .un]) (fun r N => N.length + r.length = n ∧ ∀ w ∈ N, w ∈ W)
      (fun o => ∃ N : List Str, N.length = n ∧ (∀ w ∈ N, w ∈ W) ∧ o = .nx [.fz (.list (W.map .str)), .fz (.int c), .fz (.int k), .fz (.int n), .fz (nm N), .un]) [] ?_ ⟨by simp, by simp⟩ rfl (fun l h => ⟨l, by simpa using h.1, h.2, rfl⟩) fun j r N h => ⟨_, rfl, .inl ?_⟩
    · simp
      exact r1R_nat (by omega)
    · have pj := r_part c (k + j) 4 (by omega)
      obtain ⟨w, hw, hq⟩ := at_strs W (part c (k + j) 4) (part_lo _ _ _ (by omega)) (by have := part_hi c (k + j) 4 (by omega); omega)
      have hb : binD .add (nm N) (.tuple [.str w]) = .ok (nm (N ++ [w])) := by
        simp only [nm]
        rw [bin_tup _ _ (by have := h.1; simp at this ⊢; omega)]
        simp
      refine ⟨N ++ [w], [.fz (.list (W.map .str)), .fz (.int c), .fz (.int k), .fz (.int n), .fz (nm (N ++ [w])), .fz (.int j)], .inl ?_, rfl, by have := h.1; simp at this ⊢; omega, fun x hx => ?_⟩
      · simp [v0_l_below, pj, hq, hb]
      · rcases List.mem_append.mp hx with hx | hx
        · exact h.2 x hx
        · rw [List.mem_singleton] at hx
          subst hx
          exact hw
  obtain ⟨N, h1, h2, h3⟩ := hw
  refine ⟨N, ?_, by omega, h2⟩
  have h3' : exS Q_l_below w0_l_below [.fz (.list (W.map .str)), .fz (.int c), .fz (.int k), .fz (.int n), .fz (.tuple []), .un] = _ := h3
  simp [f_l_below, b_l_below, h3']
/-- a name's text -/
def shownL : List Str → List Nat
  | [] => []
  | w :: r => shownL r ++ (w.cps.toList ++ [46])
def shown (n : List Str) : Str := if n = [] then tx [46] else tx (shownL n)
theorem dot_s : Str.ofString "." = tx [46] := str_ext (by decide +kernel)
structure GoodN (n : List Str) : Prop where
  len : n.length ≤ 100
  wd : ∀ w ∈ n, w.length ≤ 100
theorem shown_fold : ∀ (n : List Str) (t : List Nat), n.foldl (fun t w => w.cps.toList ++ [46] ++ t) t = shownL n ++ t
  | [], t => by simp [shownL]
  | w :: n, t => by rw [List.foldl_cons, shown_fold n]; simp [shownL]
theorem nm_nil : (.tuple [] : Dat) = nm [] := rfl
theorem cmp_nm (a b : List Str) : cmpD .eq (nm a) (nm b) = .ok (decide (a = b)) := by rw [cmpEq _ _ (shOk_tup_strs _) (shOk_tup_strs _), eqv_tup_strs]
theorem at_s : Str.ofString "@" = tx [64] := str_ext (by decide +kernel)
theorem star_s : Str.ofString "*" = tx [42] := str_ext (by decide +kernel)
theorem signs_asc : ∀ c ∈ signs, c < 128 ∧ c ≠ 46 ∧ c ≠ 42 ∧ c ≠ 64 ∧ lowN c = c ∧ lowN (upN c) = c ∧ upN c < 128 := by decide +kernel
def isWordL (l : List Nat) : Bool := decide (1 ≤ l.length ∧ l.length ≤ 12) && l.all fun c => decide (c ∈ signs)
def isWordS (w : Str) : Bool := isWordL w.cps.toList
theorem r_is_wordL (l : List Nat) (hl : l.length ≤ 1000000) : f_p_is_word [.str (tx l)] = .ok (.bool (isWordL l)) := by
  have hw : exS Q_p_is_word w0_p_is_word [.fz (.str (tx l)), .un] = cond (l.any fun c => !decide (c ∈ signs)) (.ret (.bool false)) (.nx [.fz (.str (tx l)), .un]) := by
    refine for_any (fun c : Nat => PyData.str (tx [c])) l (fun c => !decide (c ∈ signs)) (.bool false) [.fz (.str (tx l)), .un] (by simp [-itemsD, items_tx]) rfl fun c _ => ?_
    have e := nin_ch c (tx signs)
    rw [tx_list] at e
    refine ⟨_, rfl, ?_⟩
    by_cases h : c ∈ signs
    · rw [if_neg (by simp [h])]
      rw [decide_eq_true h] at e
      exact ⟨[.fz (.str (tx l)), .fz (.str (tx [c]))], .inl (by simp [v0_p_is_word, signs_s, e]), rfl⟩
    · rw [if_pos (by simp [h])]
      rw [decide_eq_false h] at e
      simp [v0_p_is_word, signs_s, e]
  have e1 := len_tx l hl
  unfold isWordL
  by_cases h1 : 1 ≤ l.length
  · have h1' : (1 : Int) ≤ l.length := by omega
    by_cases h2 : l.length ≤ 12
    · have h2' : (l.length : Int) ≤ 12 := by omega
      rw [all_any]
      cases q : l.any fun c => !decide (c ∈ signs) with
      | true => rw [q] at hw; simp [-biD, f_p_is_word, b_p_is_word, e1, h1', h2', h1, h2, hw]
      | false => rw [q] at hw; simp [-biD, f_p_is_word, b_p_is_word, e1, h1', h2', h1, h2, hw]
    · have h2' : ¬ (l.length : Int) ≤ 12 := by omega
      simp [-biD, f_p_is_word, b_p_is_word, e1, h1', h2', h1, h2]
  · have h1' : ¬ (1 : Int) ≤ l.length := by omega
    simp [-biD, f_p_is_word, b_p_is_word, e1, h1', h1]
theorem r_is_word (w : Str) (hl : w.length ≤ 1000000) : f_p_is_word [.str w] = .ok (.bool (isWordS w)) := by
  have := r_is_wordL w.cps.toList (by rw [← str_len]; exact hl)
  rw [tx_of] at this
  exact this
def beneathL (t : List Nat) (top : List Str) : List Str := if t = [64] then top else if t = [46] then [] else if t.getLast? = some 46 then (splitL 46 t.dropLast).reverse.map tx else top ++ (splitL 46 t).reverse.map tx
theorem rev_split (c : Nat) (t : List Nat) : ((splitL c t).map fun w => PyData.str (tx w)).reverse = ((splitL c t).reverse.map tx).map .str := by
  rw [List.map_reverse, List.map_reverse, List.map_map]
  rfl
theorem r_beneath (t : List Nat) (top : List Str) (hl : t.length ≤ 20000) (ht : top.length ≤ 1000) : f_p_beneath_top [.str (tx t), nm top] = .ok (nm (beneathL t top)) := by
  unfold beneathL
  have e0 := m1_ends 46 t
  by_cases h1 : t = [64]
  · rw [if_pos h1]
    simp [f_p_beneath_top, b_p_beneath_top, at_s, tx_eq, h1]
  · rw [if_neg h1]
    by_cases h2 : t = [46]
    · rw [if_pos h2]
      simp [f_p_beneath_top, b_p_beneath_top, at_s, dot_s, tx_eq, h2, nm]
    · rw [if_neg h2]
      by_cases h3 : t.getLast? = some 46
      · rw [if_pos h3]
        rw [decide_eq_true h3] at e0
        have e1 := sl_dropLast t (by omega)
        have e2 := m1_split 46 t.dropLast (by simp; omega)
        have e3 : ∀ ds : List Dat, ds.length ≤ 30000 → binD .add (.tuple []) (.tuple ds) = .ok (.tuple ds) := fun ds hd => by
          rw [bin_tup _ _ (by simp; omega)]
          rfl
        have hs := splitL_len 46 t.dropLast
        have e4 := rev_split 46 t.dropLast
        have e5 := e3 (((splitL 46 t.dropLast).reverse.map tx).map .str) (by simp at hs ⊢; omega)
        simp [-slD, -m1D, -List.map_reverse, -List.map_map, f_p_beneath_top, b_p_beneath_top, at_s, dot_s, tx_eq, h1, h2, e0, e1, e2, e4, e5]
      · rw [if_neg h3]
        rw [decide_eq_false h3] at e0
        have e2 := m1_split 46 t (by omega)
        have hs := splitL_len 46 t
        have e4 := rev_split 46 t
        have e5 : binD .add (nm top) (nm ((splitL 46 t).reverse.map tx)) = .ok (nm (top ++ (splitL 46 t).reverse.map tx)) := by
          simp only [nm]
          rw [bin_tup _ _ (by simp; omega), List.map_append]
        have e6 : (.tuple (((splitL 46 t).reverse.map tx).map .str) : Dat) = nm ((splitL 46 t).reverse.map tx) := rfl
        simp [-slD, -m1D, -List.map_reverse, -List.map_map, f_p_beneath_top, b_p_beneath_top, at_s, dot_s, tx_eq, h1, h2, e0, e2, e4, e6, e5]
def plainL (n : List Str) (star : Bool) : List Str := if star = true ∧ n.getLast? = some (Str.ofString "*") then n.dropLast else n
def readO (t : List Nat) (top : List Str) (star : Bool) : Option (List Str) := if (beneathL t top).length ≤ 10 ∧ (plainL (beneathL t top) star).all isWordS = true then some (beneathL t top) else none
def resO : Option (List Str) → Res Dat
  | some n => .ok (nm n)
  | none => .exc (Str.ofString "NoName") none
theorem r_read_n (n : List Str) (star : Bool) (hn : ∀ w ∈ n, w.length ≤ 1000000) (a b : Sl) :
    exSs Q_p_read_name (.cons (.ifs (.cmp .gt (.bi .len (.cons (.var 3) .nil)) (.con 2))
    (.cons (.rais "NoName") <|
    .nil)
    (.nil)) <|
  .cons (.set 4 (.var 3)) <|
  .cons (.ifs (.and (.var 2) (.and (.cmp .ne (.var 3) (.tup .nil)) (.cmp .eq (.ix (.var 3) (.neg (.int 1))) (.str "*"))))
    (.cons (.set 4 (.sl (.var 3) .no (.neg (.int 1)))) <|
    .nil)
    (.nil)) <|
  .cons (w0_p_read_name) <|
  .cons (.ret (.var 3)) <|
  .nil) [a, b, .fz (.bool star), .fz (nm n), .un, .un] = (if n.length ≤ 10 ∧ (plainL n star).all isWordS = true then .ret (nm n) else .exc (Str.ofString "NoName") none) := by
  have el : biD .len [nm n] = .ok (.int n.length) := by simp only [biD, nm, List.length_map]
  by_cases h1 : n.length ≤ 10
  · have h1' : ¬ (10 : Int) < n.length := by omega
    have cn : cmpD .ne (nm n) (.tuple []) = .ok (!decide (n = [])) := encN.ne (by decide) n []
    have fin : ∀ p : List Str, (∀ w ∈ p, w ∈ n) → exSs Q_p_read_name (.cons (w0_p_read_name) <| .cons (.ret (.var 3)) <| .nil) [a, b, .fz (.bool star), .fz (nm n), .fz (nm p), .un] = (if p.all isWordS = true then .ret (nm n) else .exc (Str.ofString "NoName") none) := fun p hp => by
      have hw : exS Q_p_read_name w0_p_read_name [a, b, .fz (.bool star), .fz (nm n), .fz (nm p), .un] = cond (p.any fun w => !isWordS w) (.exc (Str.ofString "NoName") none) (.nx [a, b, .fz (.bool star), .fz (nm n), .fz (nm p), .un]) := by
        refine for_raise PyData.str p (fun w => !isWordS w) (Str.ofString "NoName") [a, b, .fz (.bool star), .fz (nm n), .fz (nm p), .un] (by simp [nm]) rfl fun w hwp => ⟨_, rfl, fun h => ?_, fun h => ?_⟩
        · have e := r_is_word w (hn w (hp w hwp))
          rw [Bool.not_eq_true'] at h
          rw [h] at e
          simp [v0_p_read_name, e]
        · have e := r_is_word w (hn w (hp w hwp))
          rw [Bool.not_eq_false'] at h
          rw [h] at e
          exact ⟨[a, b, .fz (.bool star), .fz (nm n), .fz (nm p), .fz (.str w)], .inl (by simp [v0_p_read_name, e]), rfl⟩
      rw [all_any]
      cases q : p.any fun w => !isWordS w with
      | true => rw [q] at hw; simp [hw]
      | false => rw [q] at hw; simp [hw]
    have e4 : exSs Q_p_read_name (.cons (.ifs (.and (.var 2) (.and (.cmp .ne (.var 3) (.tup .nil)) (.cmp .eq (.ix (.var 3) (.neg (.int 1))) (.str "*"))))
    (.cons (.set 4 (.sl (.var 3) .no (.neg (.int 1)))) <|
    .nil)
    (.nil)) <|
  .cons (w0_p_read_name) <|
  .cons (.ret (.var 3)) <|
  .nil) [a, b, .fz (.bool star), .fz (nm n), .fz (nm n), .un] = (if (plainL n star).all isWordS = true then .ret (nm n) else .exc (Str.ofString "NoName") none) := by
      cases star with
      | false =>
        have hp : plainL n false = n := by unfold plainL; rw [if_neg (fun h => by cases h.1)]
        have f := fin n fun w h => h
        rw [hp, exSs_cons]
        simp [-exSs_cons, -List.all_eq_true]
        rw [f]
      | true =>
        by_cases hz : n = []
        · rw [decide_eq_true hz] at cn
          have hp : plainL n true = n := by unfold plainL; rw [if_neg (fun h => by have := h.2; rw [hz] at this; cases this)]
          have f := fin n fun w h => h
          rw [hp, exSs_cons]
          simp [-exSs_cons, -List.all_eq_true, cn]
          rw [f]
        · rw [decide_eq_false hz] at cn
          have hg : (n.map PyData.str).getLast? = some (.str (n.getLast hz)) := by rw [List.getLast?_map, List.getLast?_eq_some_getLast hz]; rfl
          have hi := ix_last (n.map PyData.str) _ hg
          have hlq := List.getLast?_eq_some_getLast hz
          generalize n.getLast hz = w at *
          by_cases hs : w = Str.ofString "*"
          · have hp : plainL n true = n.dropLast := by unfold plainL; rw [if_pos ⟨rfl, by rw [hlq, hs]⟩]
            have f := fin n.dropLast fun w h => List.dropLast_subset n h
            have sl : slD (nm n) none (some (-1)) = .ok (nm n.dropLast) := by
              have := sl_dropLastT (n.map PyData.str)
              rw [← List.map_dropLast] at this
              exact this
            rw [hp, exSs_cons]
            simp [-exSs_cons, -List.all_eq_true, -ixD, cn, hi, hs]
            rw [exSs_cons]
            simp [-exSs_cons, -List.all_eq_true, -slD, sl]
            rw [f]
          · have hp : plainL n true = n := by
              unfold plainL
              rw [if_neg (fun h => by have := h.2; rw [hlq] at this; cases this; exact hs rfl)]
            have f := fin n fun w h => h
            rw [hp, exSs_cons]
            simp [-exSs_cons, -List.all_eq_true, -ixD, cn, hi, hs]
            rw [f]
    rw [exSs_cons]
    simp [-exSs_cons, -List.all_eq_true, -biD, el, h1']
    rw [exSs_cons]
    simp [-exSs_cons, -List.all_eq_true]
    rw [e4]
    simp only [h1, true_and]
  · have h1' : (10 : Int) < n.length := by omega
    rw [if_neg (fun h => h1 h.1)]
    simp [-biD, el, h1']
theorem beneath_words (t : List Nat) (top : List Str) (ht : ∀ w ∈ top, w.length ≤ 1000) (hl : t.length ≤ 20000) : ∀ w ∈ beneathL t top, w.length ≤ 1000000 := by
  intro w hw
  have key : ∀ l : List Nat, l.length ≤ 20000 → ∀ w ∈ (splitL 46 l).reverse.map tx, w.length ≤ 1000000 := fun l hl w hw => by
    obtain ⟨v, hv, rfl⟩ := List.mem_map.mp hw
    have := (splitL_mem 46 l v (List.mem_reverse.mp hv)).1
    rw [tx_len]
    omega
  unfold beneathL at hw
  split at hw
  · have := ht w hw; omega
  · split at hw
    · simp at hw
    · split at hw
      · exact key _ (by simp; omega) w hw
      · rcases List.mem_append.mp hw with hw | hw
        · have := ht w hw; omega
        · exact key _ hl w hw
theorem r_read (g : List Nat) (hg : ∀ c ∈ g, c < 128) (hl : g.length ≤ 10000) (top : List Str) (ht : top.length ≤ 1000) (ht2 : ∀ w ∈ top, w.length ≤ 1000) (star : Bool) : f_p_read_name [.str (tx g), nm top, .bool star] = resO (readO (g.map lowN) top star) := by
  have e1 := m0_lower g hg (by omega)
  have e2 := r_beneath (g.map lowN) top (by simp; omega) ht
  have e3 : cmpD .isN (nm top) .none = .ok false := rfl
  have f := r_read_n (beneathL (g.map lowN) top) star (beneath_words _ _ ht2 (by simp; omega)) (.fz (.str (tx g))) (.fz (nm top))
  simp only [f_p_read_name, b_p_read_name, runF_eq]
  rw [exSs_cons]
  simp [-exSs_cons]
  rw [exSs_cons]
  simp [-exSs_cons, e3]
  rw [exSs_cons]
  simp [-exSs_cons, e1, e2]
  rw [f]
  unfold readO
  split <;> simp [resO]
theorem r_read0 (g : List Nat) (hg : ∀ c ∈ g, c < 128) (hl : g.length ≤ 10000) (star : Bool) : f_p_read_name [.str (tx g), .none, .bool star] = resO (readO (g.map lowN) [] star) := by
  have e1 := m0_lower g hg (by omega)
  have e2 : f_p_beneath_top [.str (tx (g.map lowN)), .tuple []] = _ := r_beneath (g.map lowN) [] (by simp; omega) (by simp)
  have e3 : cmpD .isN .none .none = .ok true := rfl
  have f := r_read_n (beneathL (g.map lowN) []) star (beneath_words _ _ (by simp) (by simp; omega)) (.fz (.str (tx g))) (.fz (.tuple []))
  simp only [f_p_read_name, b_p_read_name, runF_eq]
  rw [exSs_cons]
  simp [-exSs_cons]
  rw [exSs_cons]
  simp [-exSs_cons, e3]
  rw [exSs_cons]
  simp [-exSs_cons]
  rw [exSs_cons]
  simp [-exSs_cons, e1, e2]
  rw [f]
  unfold readO
  split <;> simp [resO]
theorem word_ok (w : Str) (g : GoodW w) : isWordS w = true := by
  have h1 := g.lo
  have h2 := g.hi
  rw [str_len] at h1 h2
  unfold isWordS isWordL
  rw [decide_eq_true ⟨h1, h2⟩, Bool.true_and, List.all_eq_true]
  exact fun x hx => decide_eq_true (g.mem x hx)
theorem star_no : isWordS (Str.ofString "*") = false := by decide +kernel
theorem ok_dot (w : Str) (h : isWordS w = true) : 1 ≤ w.length ∧ w.length ≤ 12 ∧ ∀ x ∈ w.cps.toList, x ≠ 46 ∧ x < 128 ∧ lowN x = x ∧ lowN (upN x) = x ∧ upN x < 128 := by
  unfold isWordS isWordL at h
  rw [Bool.and_eq_true, decide_eq_true_eq, List.all_eq_true] at h
  rw [str_len]
  refine ⟨h.1.1, h.1.2, fun x hx => ?_⟩
  obtain ⟨a, b, _, _, c, d, e⟩ := signs_asc x (of_decide_eq_true (h.2 x hx))
  exact ⟨b, a, c, d, e⟩
theorem joinL_snoc (c : Nat) (w : List Nat) : ∀ ps : List (List Nat), ps ≠ [] → joinL c (ps ++ [w]) = joinL c ps ++ c :: w
  | [], h => absurd rfl h
  | [v], _ => rfl
  | v :: u :: r, _ => by
    have ih := joinL_snoc c w (u :: r) (by simp)
    show v ++ c :: joinL c (u :: r ++ [w]) = _
    rw [ih]
    simp [joinL]
theorem shown_join : ∀ n : List Str, n ≠ [] → shownL n = joinL 46 (n.reverse.map fun w => w.cps.toList) ++ [46]
  | [], h => absurd rfl h
  | [w], _ => by simp [shownL, joinL]
  | w :: v :: r, _ => by
    have ih := shown_join (v :: r) (by simp)
    show shownL (v :: r) ++ (w.cps.toList ++ [46]) = _
    rw [ih, List.reverse_cons (a := w), List.map_append, List.map_cons, List.map_nil, joinL_snoc _ _ _ (by simp)]
    simp
def sh (n : List Str) : List Nat := if n = [] then [46] else shownL n
theorem shown_sh (n : List Str) : shown n = tx (sh n) := by
  unfold shown sh
  split <;> rfl
/-- words that a text tells apart -/
def Part (n : List Str) : Prop := ∀ w ∈ n, 1 ≤ w.length ∧ ∀ x ∈ w.cps.toList, x ≠ 46
theorem shown_two : ∀ n : List Str, Part n → 2 * n.length ≤ (shownL n).length
  | [], _ => by simp [shownL]
  | w :: r, h => by
    have ih := shown_two r fun v hv => h v (by simp [hv])
    have := (h w (by simp)).1
    rw [str_len] at this
    simp only [shownL, List.length_append, List.length_cons, List.length_nil]
    omega
theorem map_tx (n : List Str) : (n.reverse.map fun w => w.cps.toList).reverse.map tx = n := by
  rw [← List.map_reverse, List.reverse_reverse, List.map_map]
  conv => rhs; rw [← List.map_id n]
  exact List.map_congr_left fun s _ => tx_of s
theorem split_names (n : List Str) (h : Part n) (hn : n ≠ []) : (splitL 46 (joinL 46 (n.reverse.map fun w => w.cps.toList))).reverse.map tx = n := by
  rw [splitL_join 46 _ (by simpa using hn) fun w hw x hx => by
    obtain ⟨v, hv, rfl⟩ := List.mem_map.mp hw
    exact (h v (List.mem_reverse.mp hv)).2 x hx]
  exact map_tx n
theorem beneath_sh (n : List Str) (h : Part n) (top : List Str) : beneathL (sh n) top = n := by
  unfold sh
  by_cases hn : n = []
  · rw [if_pos hn, hn]
    rfl
  · rw [if_neg hn]
    have e := shown_join n hn
    have h2 := shown_two n h
    have hl : 0 < n.length := List.length_pos_iff.mpr hn
    have g : (shownL n).getLast? = some 46 := by rw [e]; simp
    unfold beneathL
    rw [if_neg (fun z => by rw [z] at g; cases g), if_neg (fun z => by rw [z] at h2; simp at h2; omega), if_pos g]
    have e3 : (shownL n).dropLast = joinL 46 (n.reverse.map fun w => w.cps.toList) := by rw [e]; simp
    rw [e3]
    exact split_names n h hn
theorem part_of (n : List Str) (h : n.all isWordS = true) : Part n := fun w hw => by
  have := ok_dot w (List.all_eq_true.mp h w hw)
  exact ⟨this.1, fun x hx => (this.2.2 x hx).1⟩
theorem part_star (n : List Str) (h : n.all isWordS = true) : Part (n ++ [Str.ofString "*"]) := fun w hw => by
  rcases List.mem_append.mp hw with hw | hw
  · exact part_of n h w hw
  · rw [List.mem_singleton] at hw
    subst hw
    decide +kernel
theorem plain_all (n : List Str) (h : n.all isWordS = true) (b : Bool) : (plainL n b).all isWordS = true := by
  unfold plainL
  split
  · rw [List.all_eq_true] at h ⊢
    exact fun w hw => h w (List.dropLast_subset n hw)
  · exact h
theorem plain_star (n : List Str) : plainL (n ++ [Str.ofString "*"]) true = n := by
  unfold plainL
  rw [if_pos ⟨rfl, by simp⟩]
  simp
theorem star_not (n : List Str) : (plainL (n ++ [Str.ofString "*"]) false).all isWordS = false := by
  unfold plainL
  rw [if_neg (fun h => by cases h.1)]
  simp [star_no]
/-- signs that are small or have no size -/
def lowC (c : Nat) : Prop := c < 128 ∧ lowN c = c ∧ lowN (upN c) = c ∧ upN c < 128
theorem low_shown : ∀ n : List Str, (∀ w ∈ n, ∀ x ∈ w.cps.toList, lowC x) → ∀ x ∈ sh n, lowC x := by
  have d : lowC 46 := by unfold lowC; decide +kernel
  have go : ∀ n : List Str, (∀ w ∈ n, ∀ x ∈ w.cps.toList, lowC x) → ∀ x ∈ shownL n, lowC x := by
    intro n
    induction n with
    | nil => intro _ x hx; simp [shownL] at hx
    | cons w r ih =>
      intro h x hx
      simp only [shownL, List.mem_append, List.mem_singleton] at hx
      rcases hx with hx | hx | rfl
      · exact ih (fun v hv => h v (by simp [hv])) x hx
      · exact h w (by simp) x hx
      · exact d
  intro n h x hx
  unfold sh at hx
  split at hx
  · simp at hx
    subst hx
    exact d
  · exact go n h x hx
theorem sh_len (n : List Str) (h : ∀ w ∈ n, w.length ≤ 12) (hn : n.length ≤ 100) : (sh n).length ≤ 2000 := by
  have go : ∀ n : List Str, (∀ w ∈ n, w.length ≤ 12) → (shownL n).length ≤ 13 * n.length := by
    intro n
    induction n with
    | nil => intro _; simp [shownL]
    | cons w r ih =>
      intro h
      have h1 := ih fun v hv => h v (by simp [hv])
      have h2 := h w (by simp)
      rw [str_len] at h2
      simp only [shownL, List.length_append, List.length_cons, List.length_nil]
      omega
  unfold sh
  split
  · simp
  · have := go n h
    omega
theorem joinL_len (c B : Nat) : ∀ ps : List (List Nat), (∀ w ∈ ps, w.length ≤ B) → (joinL c ps).length ≤ ps.length * (B + 1)
  | [], _ => by simp [joinL]
  | [w], h => by
    have := h w (by simp)
    simp [joinL]
    omega
  | w :: v :: r, h => by
    have h1 := h w (by simp)
    have h2 := joinL_len c B (v :: r) fun u hu => h u (by simp only [List.mem_cons] at hu ⊢; exact .inr hu)
    unfold joinL
    simp only [List.length_append, List.length_cons] at h2 ⊢
    have e : (r.length + 1 + 1) * (B + 1) = (r.length + 1) * (B + 1) + (B + 1) := by rw [Nat.succ_mul]
    rw [e]
    omega
theorem joinL_mem (c : Nat) : ∀ (ps : List (List Nat)) (x : Nat), x ∈ joinL c ps → x = c ∨ ∃ w ∈ ps, x ∈ w
  | [], x, h => by simp [joinL] at h
  | [w], x, h => .inr ⟨w, by simp, h⟩
  | w :: v :: r, x, h => by
    unfold joinL at h
    simp only [List.mem_append, List.mem_cons] at h
    rcases h with h | h | h
    · exact .inr ⟨w, by simp, h⟩
    · exact .inl h
    · rcases joinL_mem c (v :: r) x h with h | ⟨u, hu, hx⟩
      · exact .inl h
      · exact .inr ⟨u, by simp only [List.mem_cons] at hu ⊢; exact .inr hu, hx⟩
theorem joinL_last (c : Nat) (ps : List (List Nat)) (w : List Nat) (hw : w ≠ []) : (joinL c (ps ++ [w])).getLast? = w.getLast? := by
  by_cases h : ps = []
  · subst h
    rfl
  · rw [joinL_snoc c w ps h, List.getLast?_append]
    have : (c :: w).getLast? = w.getLast? := by
      cases w with
      | nil => exact absurd rfl hw
      | cons x r => rfl
    rw [this, List.getLast?_eq_some_getLast hw]
    rfl
theorem join_list (w : Str) (ws : List Str) (sep : Str) : Txt.join sep (w :: ws) = tx (ws.foldl (fun t x => t ++ sep.cps.toList ++ x.cps.toList) w.cps.toList) := by
  apply str_ext
  rw [tx_list]
  show (List.foldl (fun acc p => acc ++ sep.cps ++ p.cps) w.cps ws).toList = _
  generalize w.cps = a
  induction ws generalizing a with
  | nil => rfl
  | cons x ws ih => rw [List.foldl_cons, ih, List.foldl_cons]; simp
theorem sum_le (ws : List Str) (B : Nat) (h : ∀ w ∈ ws, w.length ≤ B) : (ws.map (·.length)).sum ≤ ws.length * B := by
  induction ws with
  | nil => simp
  | cons w ws ih =>
    have h1 := h w (by simp)
    have h2 := ih fun x hx => h x (by simp [hx])
    simp only [List.map_cons, List.sum_cons, List.length_cons, Nat.add_mul]
    omega
theorem strsD_map : ∀ ws : List Str, strsD (ws.map PyData.str) = some ws
  | [] => rfl
  | w :: ws => by simp [strsD, strsD_map ws]
theorem nin_ch (c : Nat) (s : Str) : cmpD .nin (.str (tx [c])) (.str s) = .ok (!decide (c ∈ s.cps.toList)) := rfl
theorem items_tx (l : List Nat) : itemsD (.str (tx l)) = .ok (l.map fun c => PyData.str (tx [c])) := rfl
theorem len_tx (l : List Nat) (h : l.length ≤ 1000000) : biD .len [.str (tx l)] = .ok (.int l.length) := by
  simp only [biD, tx_len]
  rw [if_pos h]
def letters : List Nat := (Str.ofString "abcdefghijklmnopqrstuvwxyz").cps.toList
def figures : List Nat := (Str.ofString "0123456789").cps.toList
theorem letters_s : Str.ofString "abcdefghijklmnopqrstuvwxyz" = tx letters := (tx_of _).symm
theorem figures_s : Str.ofString "0123456789" = tx figures := (tx_of _).symm
def kindB (l : List Nat) : Bool := decide (1 ≤ l.length ∧ l.length ≤ 8) && l.all fun c => decide (c ∈ letters)
def valueC (c : Nat) : Bool := decide (33 ≤ c) && decide (c ≤ 126) && !decide (c = 37)
def valueB (l : List Nat) : Bool := decide (1 ≤ l.length ∧ l.length ≤ 40) && l.all valueC
theorem all_any {α : Type} (p : α → Bool) (l : List α) : l.all p = !l.any fun c => !p c := by
  induction l with
  | nil => rfl
  | cons x l ih => simp [ih]
theorem r_is_kind (l : List Nat) (hl : l.length ≤ 1000000) : f_p_is_kind [.str (tx l)] = .ok (.bool (kindB l)) := by
  have hw := for_any (P := Q_p_is_kind) (tmp := [1]) (tg := .nm 1) (it := .seq (.var 0)) (body := v0_p_is_kind) (ρ := [.fz (.str (tx l)), .un]) (fun c : Nat => PyData.str (tx [c])) l (fun c => !decide (c ∈ letters)) (.bool false) [.fz (.str (tx l)), .un]
    (by simp [-itemsD, items_tx]) rfl fun c _ => by
      have e := nin_ch c (tx letters)
      rw [tx_list] at e
      refine ⟨_, rfl, ?_⟩
      by_cases h : c ∈ letters
      · rw [if_neg (by simp [h])]
        rw [decide_eq_true h] at e
        exact ⟨[.fz (.str (tx l)), .fz (.str (tx [c]))], .inl (by simp [v0_p_is_kind, letters_s, e]), rfl⟩
      · rw [if_pos (by simp [h])]
        rw [decide_eq_false h] at e
        simp [v0_p_is_kind, letters_s, e]
  have hw' : exS Q_p_is_kind w0_p_is_kind [.fz (.str (tx l)), .un] = _ := hw
  have e1 := len_tx l hl
  unfold kindB
  by_cases h1 : 1 ≤ l.length
  · have h1' : (1 : Int) ≤ l.length := by omega
    by_cases h2 : l.length ≤ 8
    · have h2' : (l.length : Int) ≤ 8 := by omega
      rw [all_any]
      cases q : l.any fun c => !decide (c ∈ letters) with
      | true => rw [q] at hw'; simp [-biD, f_p_is_kind, b_p_is_kind, e1, h1', h2', h1, h2, hw']
      | false => rw [q] at hw'; simp [-biD, f_p_is_kind, b_p_is_kind, e1, h1', h2', h1, h2, hw']
    · have h2' : ¬ (l.length : Int) ≤ 8 := by omega
      simp [-biD, f_p_is_kind, b_p_is_kind, e1, h1', h2', h1, h2]
  · have h1' : ¬ (1 : Int) ≤ l.length := by omega
    simp [-biD, f_p_is_kind, b_p_is_kind, e1, h1', h1]
theorem le_lo (c : Nat) : cmpD .le (.str (Str.ofString "!")) (.str (tx [c])) = .ok (decide (33 ≤ c)) := by
  have e : (Str.ofString "!").cps.toList = [33] := by decide +kernel
  simp only [cmpD, e, tx_list]
  congr 1
  rw [Bool.eq_iff_iff]
  simp [List.cons_lt_cons_iff]
theorem le_hi (c : Nat) : cmpD .le (.str (tx [c])) (.str (Str.ofString "~")) = .ok (decide (c ≤ 126)) := by
  have e : (Str.ofString "~").cps.toList = [126] := by decide +kernel
  simp only [cmpD, e, tx_list]
  congr 1
  rw [Bool.eq_iff_iff]
  simp [List.cons_lt_cons_iff]
theorem ord_tx (c : Nat) : biD .ord [.str (tx [c])] = .ok (.int (c : Int)) := by
  simp only [biD, tx_len]
  rw [if_pos (by rfl)]
  rfl
theorem r_is_value (l : List Nat) (hl : l.length ≤ 1000000) : f_p_is_value [.str (tx l)] = .ok (.bool (valueB l)) := by
  have hw := for_any (P := Q_p_is_value) (tmp := [1]) (tg := .nm 1) (it := .seq (.var 0)) (body := v0_p_is_value) (ρ := [.fz (.str (tx l)), .un]) (fun c : Nat => PyData.str (tx [c])) l (fun c => !valueC c) (.bool false) [.fz (.str (tx l)), .un]
    (by simp [-itemsD, items_tx]) rfl fun c _ => by
      have e1 := le_lo c
      have e2 := le_hi c
      have e3 := ord_tx c
      refine ⟨_, rfl, ?_⟩
      by_cases h1 : 33 ≤ c
      · rw [decide_eq_true h1] at e1
        by_cases h2 : c ≤ 126
        · rw [decide_eq_true h2] at e2
          by_cases h3 : c = 37
          · rw [if_pos (by simp [valueC, h3])]
            have h3' : (c : Int) = 37 := by omega
            simp [-biD, v0_p_is_value, e1, e2, e3, h3']
          · rw [if_neg (by simp [valueC, h1, h2, h3])]
            have h3' : ¬ (c : Int) = 37 := by omega
            exact ⟨[.fz (.str (tx l)), .fz (.str (tx [c]))], .inl (by simp [-biD, v0_p_is_value, e1, e2, e3, h3']), rfl⟩
        · rw [decide_eq_false h2] at e2
          rw [if_pos (by simp [valueC, h2])]
          simp [-biD, v0_p_is_value, e1, e2]
      · rw [decide_eq_false h1] at e1
        rw [if_pos (by simp [valueC, h1])]
        simp [-biD, v0_p_is_value, e1]
  have hw' : exS Q_p_is_value w0_p_is_value [.fz (.str (tx l)), .un] = _ := hw
  have e1 := len_tx l hl
  unfold valueB
  by_cases h1 : 1 ≤ l.length
  · have h1' : (1 : Int) ≤ l.length := by omega
    by_cases h2 : l.length ≤ 40
    · have h2' : (l.length : Int) ≤ 40 := by omega
      rw [all_any]
      cases q : l.any fun c => !valueC c with
      | true => rw [q] at hw'; simp [-biD, f_p_is_value, b_p_is_value, e1, h1', h2', h1, h2, hw']
      | false => rw [q] at hw'; simp [-biD, f_p_is_value, b_p_is_value, e1, h1', h2', h1, h2, hw']
    · have h2' : ¬ (l.length : Int) ≤ 40 := by omega
      simp [-biD, f_p_is_value, b_p_is_value, e1, h1', h2', h1, h2]
  · have h1' : ¬ (1 : Int) ≤ l.length := by omega
    simp [-biD, f_p_is_value, b_p_is_value, e1, h1', h1]
def lifeO (l : List Nat) : Option Nat := if 1 ≤ l.length ∧ l.length ≤ 9 ∧ (l.all fun c => decide (c ∈ figures)) = true ∧ ¬ (l.head? = some 48 ∧ 1 < l.length) then some (PySem.NumText.digitsVal l) else none
def optI : Option Nat → Dat
  | none => .none
  | some n => .int n
theorem fig_digits (l : List Nat) (h : (l.all fun c => decide (c ∈ figures)) = true) : PySem.NumText.AllDigits l := by
  intro c hc
  have := List.all_eq_true.mp h c hc
  have hm : c ∈ figures := of_decide_eq_true this
  have : ∀ x ∈ figures, 48 ≤ x ∧ x ≤ 57 := by decide +kernel
  exact this c hm
theorem zero_s : Str.ofString "0" = tx [48] := str_ext (by decide +kernel)
theorem r_read_life (l : List Nat) (hl : l.length ≤ 1000000) : f_p_read_life [.str (tx l)] = .ok (optI (lifeO l)) := by
  have hw := for_any (P := Q_p_read_life) (tmp := [1]) (tg := .nm 1) (it := .seq (.var 0)) (body := v0_p_read_life) (ρ := [.fz (.str (tx l)), .un]) (fun c : Nat => PyData.str (tx [c])) l (fun c => !decide (c ∈ figures)) .none [.fz (.str (tx l)), .un]
    (by simp [-itemsD, items_tx]) rfl fun c _ => by
      have e := nin_ch c (tx figures)
      rw [tx_list] at e
      refine ⟨_, rfl, ?_⟩
      by_cases h : c ∈ figures
      · rw [if_neg (by simp [h])]
        rw [decide_eq_true h] at e
        exact ⟨[.fz (.str (tx l)), .fz (.str (tx [c]))], .inl (by simp [v0_p_read_life, figures_s, e]), rfl⟩
      · rw [if_pos (by simp [h])]
        rw [decide_eq_false h] at e
        simp [v0_p_read_life, figures_s, e]
  have hw' : exS Q_p_read_life w0_p_read_life [.fz (.str (tx l)), .un] = _ := hw
  have e1 := len_tx l hl
  unfold lifeO
  by_cases h1 : 1 ≤ l.length
  · have h1' : (1 : Int) ≤ l.length := by omega
    by_cases h2 : l.length ≤ 9
    · have h2' : (l.length : Int) ≤ 9 := by omega
      cases q : l.all fun c => decide (c ∈ figures) with
      | false =>
        rw [all_any] at q
        rw [Bool.not_eq_false'] at q
        rw [q] at hw'
        simp [-biD, f_p_read_life, b_p_read_life, e1, h1', h2', hw', optI]
      | true =>
        have q' := q
        rw [all_any] at q'
        rw [Bool.not_eq_true'] at q'
        rw [q'] at hw'
        obtain ⟨x, r, rfl⟩ : ∃ x r, l = x :: r := by
          cases l with
          | nil => simp at h1
          | cons x r => exact ⟨x, r, rfl⟩
        have a0 : ixD (.str (tx (x :: r))) (.int 0) = .ok (.str (tx [x])) := by
          have e : L2.atI (x :: r) (0 : Int) = some x := atI_nat (x :: r) 0
          simp only [ixD, tx_len, tx_list, e]
          rw [if_pos hl]
          rfl
        have hi : biD .int [.str (tx (x :: r))] = .ok (.int (PySem.NumText.digitsVal (x :: r) : Nat)) := by
          have e : PySem.intText? (tx (x :: r)) = some ((PySem.NumText.digitsVal (x :: r) : Nat) : Int) := PySem.intText_digits (fig_digits _ q) (by simp) (by rw [tx_len]; omega)
          simp only [biD, e]
          rw [if_pos (by rw [tx_len]; omega)]
        have hx : decide (tx [x] = tx [48]) = decide (x = 48) := by
          rw [Bool.eq_iff_iff, decide_eq_true_eq, decide_eq_true_eq]
          exact ⟨fun h => by simpa using tx_inj h, fun h => by rw [h]⟩
        generalize hn : (x :: r).length = n at *
        by_cases h3 : x = 48
        · by_cases h4 : 1 < n
          · have h4' : (1 : Int) < (n : Int) := by omega
            rw [if_neg (by rintro ⟨_, _, _, h⟩; exact h ⟨by simp [h3], h4⟩)]
            rw [decide_eq_true h3] at hx
            simp [-biD, -ixD, f_p_read_life, b_p_read_life, e1, h1', h2', hw', a0, zero_s, hx, h4', optI]
          · have h4' : ¬ (1 : Int) < (n : Int) := by omega
            rw [if_pos ⟨h1, h2, rfl, fun h => h4 h.2⟩]
            rw [decide_eq_true h3] at hx
            simp [-biD, -ixD, f_p_read_life, b_p_read_life, e1, h1', h2', hw', a0, zero_s, hx, h4', hi, optI]
        · rw [if_pos ⟨h1, h2, rfl, fun h => h3 (by simpa using h.1)⟩]
          rw [decide_eq_false h3] at hx
          simp [-biD, -ixD, f_p_read_life, b_p_read_life, e1, h1', h2', hw', a0, zero_s, hx, hi, optI]
    · have h2' : ¬ (l.length : Int) ≤ 9 := by omega
      have : ¬ (1 ≤ l.length ∧ l.length ≤ 9 ∧ (l.all fun c => decide (c ∈ figures)) = true ∧ ¬ (l.head? = some 48 ∧ 1 < l.length)) := fun h => h2 h.2.1
      rw [if_neg this]
      simp [-biD, f_p_read_life, b_p_read_life, e1, h1', h2', optI]
  · have h1' : ¬ (1 : Int) ≤ l.length := by omega
    have : ¬ (1 ≤ l.length ∧ l.length ≤ 9 ∧ (l.all fun c => decide (c ∈ figures)) = true ∧ ¬ (l.head? = some 48 ∧ 1 < l.length)) := fun h => h1 h.1
    rw [if_neg this]
    simp [-biD, f_p_read_life, b_p_read_life, e1, h1', optI]
theorem val_lt : ∀ (l : List Nat), PySem.NumText.AllDigits l → PySem.NumText.digitsVal l < 10 ^ l.length := by
  intro l
  have key : ∀ (l : List Nat) (a : Nat), PySem.NumText.AllDigits l → l.foldl (fun acc c => acc * 10 + (c - 48)) a < (a + 1) * 10 ^ l.length := by
    intro l
    induction l with
    | nil => intro a _; simp
    | cons x l ih =>
      intro a h
      have hx := h x (by simp)
      have z := ih (a * 10 + (x - 48)) fun c hc => h c (by simp [hc])
      rw [List.foldl_cons, List.length_cons, Nat.pow_succ]
      have : (a * 10 + (x - 48) + 1) * 10 ^ l.length ≤ (a + 1) * 10 * 10 ^ l.length := Nat.mul_le_mul_right _ (by omega)
      have e : (a + 1) * 10 * 10 ^ l.length = (a + 1) * (10 ^ l.length * 10) := by rw [Nat.mul_assoc, Nat.mul_comm 10]
      omega
  intro h
  have := key l 0 h
  simpa [PySem.NumText.digitsVal] using this
/-- a number's signs -/
def numL (n : Nat) : List Nat := (numS n).cps.toList
theorem numS_tx (n : Nat) : numS (n : Int) = tx (numL n) := (tx_of _).symm
theorem numL_eq (n : Nat) : numL n = (Nat.toDigits 10 n).map Char.toNat := by
  unfold numL numS
  exact PySem.W.KIN.signs_num n
theorem numL_len (n k : Nat) (hk : 0 < k) : (numL n).length ≤ k ↔ n < 10 ^ k := by
  rw [numL_eq, List.length_map]
  exact Nat.length_toDigits_le_iff (by decide) hk
theorem numL_fig (n : Nat) : ((numL n).all fun c => decide (c ∈ figures)) = true := by
  rw [numL_eq, List.all_map, List.all_eq_true]
  intro c hc
  have h := Nat.isDigit_of_mem_toDigits (by decide) (by decide) hc
  have h2 : 48 ≤ c.toNat ∧ c.toNat ≤ 57 := by
    simp only [Char.isDigit, Bool.and_eq_true, decide_eq_true_eq] at h
    exact ⟨h.1, h.2⟩
  have : ∀ x : Nat, 48 ≤ x → x ≤ 57 → x ∈ figures := fun x a b => by
    have : ∀ y : Fin 10, (48 + y.val) ∈ figures := by decide +kernel
    have z := this ⟨x - 48, by omega⟩
    simpa [show 48 + (x - 48) = x by omega] using z
  exact decide_eq_true (this _ h2.1 h2.2)
theorem numL_pos (n : Nat) : 1 ≤ (numL n).length := by
  rw [numL_eq, List.length_map]
  exact Nat.length_toDigits_pos
theorem numL_val (n : Nat) (h : n < 1000000000) : PySem.NumText.digitsVal (numL n) = n := by
  have h1 : PySem.intText? (tx (numL n)) = some ((PySem.NumText.digitsVal (numL n) : Nat) : Int) := PySem.intText_digits (fig_digits _ (numL_fig n)) (fun e => by have := numL_pos n; rw [tx_list] at e; rw [e] at this; simp at this) (by
    rw [tx_len]
    have := (numL_len n 9 (by decide)).2 (by simpa using h)
    omega)
  have h2 : PySem.intText? (numS (n : Int)) = some (n : Int) := PySem.W.KIN.num_reads (by omega) (by
    have : (1000000000 : Int) ≤ 10 ^ 10 := by decide
    omega)
  rw [numS_tx, h1] at h2
  simp only [Option.some.injEq] at h2
  omega
theorem life_num (n : Nat) (h : n < 1000000000) : lifeO (numL n) = some n := by
  have hl : (numL n).length ≤ 9 := (numL_len n 9 (by decide)).2 (by simpa using h)
  have hneg : ¬ ((numL n).head? = some 48 ∧ 1 < (numL n).length) := by
    rintro ⟨h1, h2⟩
    obtain ⟨x, r, e⟩ : ∃ x r, numL n = x :: r := by
      cases q : numL n with
      | nil => rw [q] at h2; simp at h2
      | cons x r => exact ⟨x, r, rfl⟩
    rw [e] at h1 h2
    simp only [List.head?_cons, Option.some.injEq] at h1
    subst h1
    have hv := numL_val n h
    have hd : PySem.NumText.AllDigits r := fun c hc => fig_digits _ (numL_fig n) c (by rw [e]; simp [hc])
    have e0 : PySem.NumText.digitsVal (48 :: r) = PySem.NumText.digitsVal r := by simp [PySem.NumText.digitsVal]
    rw [e, e0] at hv
    have hlt := val_lt r hd
    rw [hv] at hlt
    have hr : 0 < r.length := by rw [List.length_cons] at h2; omega
    have := (numL_len n r.length hr).2 hlt
    rw [e, List.length_cons] at this
    omega
  unfold lifeO
  rw [if_pos ⟨numL_pos n, hl, numL_fig n, hneg⟩, numL_val n h]
inductive Val where
  | n (a : List Str)
  | s (x : Str)
  deriving DecidableEq
structure Row where
  nm : List Str
  life : Int
  kind : Str
  val : Val
  deriving DecidableEq
def valD : Val → Dat
  | .n a => nm a
  | .s x => .str x
def rowD (r : Row) : Dat := .tuple [nm r.nm, .int r.life, .str r.kind, valD r.val]
theorem encV : Enc valD 1 := ⟨fun a b => by
    cases a <;> cases b
    · simp only [valD, nm]
      rw [encN.eqv]
      simp
    · simp [valD, nm, PyData.eqv]
    · simp [valD, nm, PyData.eqv]
    · simp [valD], fun a => by cases a with
    | n a => exact encN.ndc a
    | s x => rfl, fun a => by cases a with
    | n a => exact encN.dep a
    | s x => simp [valD, PyData.depth]⟩
theorem encR : Enc rowD 2 := ⟨fun a b => by
    have h1 : PyData.eqv (nm a.nm) (nm b.nm) = decide (a.nm = b.nm) := encN.eqv a.nm b.nm
    have h2 := encV.eqv a.val b.val
    have e : PyData.eqv (rowD a) (rowD b) = (PyData.eqv (nm a.nm) (nm b.nm) && (PyData.eqv (.int a.life) (.int b.life) && (PyData.eqv (.str a.kind) (.str b.kind) && (PyData.eqv (valD a.val) (valD b.val) && true)))) := rfl
    rw [e, h1, h2, eqv_int, eqv_str]
    cases a; cases b
    simp only [Row.mk.injEq, Bool.and_true]
    rw [Bool.eq_iff_iff]
    simp, fun a => by
    have h1 : ndc (nm a.nm) = true := encN.ndc a.nm
    have h2 := encV.ndc a.val
    have e : ndc (rowD a) = (ndc (nm a.nm) && (true && (true && (ndc (valD a.val) && true)))) := rfl
    rw [e, h1, h2]
    rfl, fun a => by
    refine depth_tup _ fun d hd => ?_
    simp only [List.mem_cons, List.not_mem_nil, or_false] at hd
    rcases hd with rfl | rfl | rfl | rfl
    · exact encN.dep a.nm
    · simp [PyData.depth]
    · simp [PyData.depth]
    · exact encV.dep a.val⟩
theorem cmpn_nm (a b : List Str) : cmpD .ne (nm a) (nm b) = .ok (!decide (a = b)) := encN.ne (by decide) a b
theorem row_0 (r : Row) : ixD (rowD r) (.int 0) = .ok (nm r.nm) := by simp [rowD, L2.atI, L2.ixN]
theorem row_2 (r : Row) : ixD (rowD r) (.int 2) = .ok (.str r.kind) := by simp [rowD, L2.atI, L2.ixN]
theorem row_3 (r : Row) : ixD (rowD r) (.int 3) = .ok (valD r.val) := by simp [rowD, L2.atI, L2.ixN]
def zoneD (top : List Str) (life : Int) (R : List Row) : Dat := .tuple [nm top, .int life, .list (R.map rowD)]
theorem zone_0 (t : List Str) (l : Int) (R : List Row) : ixD (zoneD t l R) (.int 0) = .ok (nm t) := by simp [zoneD, L2.atI, L2.ixN]
theorem zone_2 (t : List Str) (l : Int) (R : List Row) : ixD (zoneD t l R) (.int 2) = .ok (.list (R.map rowD)) := by simp [zoneD, L2.atI, L2.ixN]
theorem row_1 (r : Row) : ixD (rowD r) (.int 1) = .ok (.int r.life) := by simp [rowD, L2.atI, L2.ixN]
theorem zone_1 (t : List Str) (l : Int) (R : List Row) : ixD (zoneD t l R) (.int 1) = .ok (.int l) := by simp [zoneD, L2.atI, L2.ixN]
theorem r_at (a b : List Str) : f_p_at_or_beneath [nm a, nm b] = .ok (.bool (decide (a.take b.length = b))) := by
  simp [f_p_at_or_beneath, b_p_at_or_beneath, nm, cut_to, ← List.map_take, cmpEq _ _ (shOk_tup_strs _) (shOk_tup_strs _), eqv_tup_strs]
theorem blank_s : Str.ofString " " = tx [32] := str_ext (by decide +kernel)
theorem line_s : Str.ofString "\n" = tx [10] := str_ext (by decide +kernel)
theorem semi_s : Str.ofString ";" = tx [59] := str_ext (by decide +kernel)
theorem startswith_tx (c : Nat) (l : List Nat) : Txt.startswith (tx l) (tx [c]) = decide (l.head? = some c) := by
  unfold Txt.startswith Builtin.Str.subAt
  simp only [tx_len, List.length_cons, List.length_nil]
  cases l with
  | nil => simp
  | cons x r =>
    have e1 : decide (0 + (0 + 1) ≤ (x :: r).length) = true := decide_eq_true (by simp)
    rw [e1, Bool.true_and]
    have e2 : ((tx (x :: r)).cps.extract 0 (0 + (0 + 1))).toList = [x] := by
      rw [Array.toList_extract]
      show List.extract (x :: r) _ _ = _
      simp [List.extract_eq_drop_take]
    rw [Bool.eq_iff_iff]
    constructor
    · intro q
      have q := eq_of_beq q
      have : ((tx (x :: r)).cps.extract 0 (0 + (0 + 1))).toList = (tx [c]).cps.toList := by rw [q]
      rw [e2, tx_list] at this
      simp at this
      simp [this]
    · intro q
      have q := of_decide_eq_true q
      simp at q
      refine beq_iff_eq.mpr ?_
      apply Array.toList_inj.mp
      rw [e2, q]
      rfl
theorem m1_starts (c : Nat) (l : List Nat) : m1D .startswith (.str (tx l)) (.str (tx [c])) = .ok (.bool (decide (l.head? = some c))) := by
  simp only [m1D, startswith_tx]
theorem sub_take (l : List Nat) (n : Nat) : (Builtin.Str.strSub (tx l) 0 n).cps.toList = l.take n := by
  show ((tx l).cps.extract 0 n).toList = _
  rw [Array.toList_extract]
  show List.extract l 0 n = _
  simp [List.extract_eq_drop_take]
theorem tw_all {α : Type} (p : α → Bool) : ∀ l : List α, (∀ x ∈ l, p x = true) → l.takeWhile p = l
  | [], _ => rfl
  | x :: l, h => by rw [List.takeWhile_cons_of_pos (h x (by simp)), tw_all p l fun y hy => h y (by simp [hy])]
theorem rstrip_nil (c : Nat) (l : List Nat) : (Txt.rstripChars (tx l) (tx [c]) = tx []) ↔ ∀ x ∈ l, x = c := by
  have e0 : Txt.rstripChars (tx l) (tx [c]) = tx (l.take (l.length - (l.reverse.takeWhile fun x => (tx [c]).cps.contains x).length)) := by
    unfold Txt.rstripChars
    rw [PySem.W.stripBy_eq]
    have e1 : (tx l).length = l.length := tx_len l
    show Builtin.Str.strSub (tx l) 0 ((tx l).length - (((tx l).cps.toList.drop 0).reverse.takeWhile fun x => (tx [c]).cps.contains x).length) = _
    rw [e1, tx_list, List.drop_zero]
    apply str_ext
    rw [tx_list, sub_take]
  have hc : ∀ x, (tx [c]).cps.contains x = decide (x = c) := fun x => by
    have : (tx [c]).cps = #[c] := rfl
    rw [this]
    simp [Bool.eq_iff_iff, eq_comm]
  rw [e0, tx_eq]
  constructor
  · intro h x hx
    have h1 : l.length - (l.reverse.takeWhile fun x => (tx [c]).cps.contains x).length = 0 ∨ l = [] := by
      rw [List.take_eq_nil_iff] at h
      exact h
    rcases h1 with h1 | h1
    · have h2 : (l.reverse.takeWhile fun x => (tx [c]).cps.contains x).length = l.reverse.length := by
        have := (List.takeWhile_prefix (l := l.reverse) (fun x => (tx [c]).cps.contains x)).length_le
        rw [List.length_reverse] at this ⊢
        omega
      have h3 : l.reverse.takeWhile (fun x => (tx [c]).cps.contains x) = l.reverse := (List.takeWhile_prefix _).eq_of_length h2
      have h4 : ∀ y ∈ l.reverse, (tx [c]).cps.contains y = true := by
        rw [← h3]
        exact fun y hy => List.all_eq_true.mp List.all_takeWhile y hy
      have := h4 x (List.mem_reverse.mpr hx)
      rw [hc] at this
      exact of_decide_eq_true this
    · rw [h1] at hx
      simp at hx
  · intro h
    have h3 : l.reverse.takeWhile (fun x => (tx [c]).cps.contains x) = l.reverse := by
      refine tw_all _ _ fun y hy => ?_
      rw [hc]
      exact decide_eq_true (h y (List.mem_reverse.mp hy))
    rw [h3, List.length_reverse, Nat.sub_self, List.take_zero]
def passB (l : List Nat) : Bool := decide (∀ x ∈ l, x = 32) || decide (l.head? = some 59)
theorem r_passed (l : List Nat) (hl : l.length ≤ 1000000) : f_p_is_passed_over [.str (tx l)] = .ok (.bool (passB l)) := by
  have e1 : m1D .rstrip (.str (tx l)) (.str (tx [32])) = .ok (.str (Txt.rstripChars (tx l) (tx [32]))) := by
    simp only [m1D]
    rw [if_pos (by rw [tx_len]; exact hl)]
  have e2 : decide (Txt.rstripChars (tx l) (tx [32]) = tx []) = decide (∀ x ∈ l, x = 32) := by
    rw [Bool.eq_iff_iff, decide_eq_true_eq, decide_eq_true_eq]
    exact rstrip_nil 32 l
  have e3 := m1_starts 59 l
  unfold passB
  cases q : decide (∀ x ∈ l, x = 32) with
  | true => rw [q] at e2; simp [f_p_is_passed_over, b_p_is_passed_over, blank_s, empty_s, semi_s, e1, e2]
  | false => rw [q] at e2; simp [f_p_is_passed_over, b_p_is_passed_over, blank_s, empty_s, semi_s, e1, e2, e3]
/-- a line's words -/
def wordsL (l : List Nat) : List (List Nat) := (splitL 32 l).filter fun w => !decide (w = [])
theorem r_words_of (l : List Nat) (hl : l.length ≤ 100000) : f_p_words_of [.str (tx l)] = .ok (.list ((wordsL l).map fun w => PyData.str (tx w))) := by
  have he : ev Q_p_words_of e0_p_words_of [.fz (.str (tx l)), .un] = .ok (.list ((wordsL l).map fun w => PyData.str (tx w))) := by
    refine lc_filter (fun w => PyData.str (tx w)) (fun w => PyData.str (tx w)) (fun w => !decide (w = [])) (splitL 32 l) ?_ ?_ fun w _ => ⟨_, rfl, ?_, fun _ => ?_⟩
    · have := m1_split 32 l (by omega)
      simp [blank_s, this]
    · have := splitL_len 32 l
      omega
    · show tR _ = _
      simp [empty_s, tx_eq]
    · simp
  simp [f_p_words_of, b_p_words_of, he]
theorem words_join (ps : List (List Nat)) (hn : ps ≠ []) (h : ∀ w ∈ ps, w ≠ [] ∧ ∀ x ∈ w, x ≠ 32) : wordsL (joinL 32 ps) = ps := by
  unfold wordsL
  rw [splitL_join 32 ps hn fun w hw => (h w hw).2, List.filter_eq_self]
  intro w hw
  simp [(h w hw).1]
theorem isin_tup (x : Str) (xs : List Str) : cmpD .isin (.str x) (.tuple (xs.map .str)) = .ok (decide (x ∈ xs)) := by
  have h1 := encS.sh (by omega) x
  have h2 := encS.tup.sh (by omega) xs
  simp only [cmpD, inB]
  rw [h1, h2, encS.inD]
  rfl
def point (k : Str) : Bool := decide (k ∈ [Str.ofString "else", Str.ofString "down"])
theorem point_in (k : Str) : cmpD .isin (.str k) (.tuple [.str (Str.ofString "else"), .str (Str.ofString "down")]) = .ok (point k) := isin_tup k [Str.ofString "else", Str.ofString "down"]
theorem r_name_at (g : List Nat) (hg : ∀ c ∈ g, c < 128) (hl : g.length ≤ 10000) (top : List Str) (ht : top.length ≤ 1000) (ht2 : ∀ w ∈ top, w.length ≤ 1000) (star : Bool) (n : List Str) (h : readO (g.map lowN) top star = some n) (k : Int) : f_p_name_at [.int k, .str (tx g), nm top, .bool star] = .ok (nm n) := by
  have e := r_read g hg hl top ht ht2 star
  rw [h] at e
  simp only [resO] at e
  simp [f_p_name_at, b_p_name_at, e]
theorem r_life_at (l : List Nat) (hl : l.length ≤ 1000000) (n : Nat) (h : lifeO l = some n) (k : Int) : f_p_life_at [.int k, .str (tx l)] = .ok (.int n) := by
  have e := r_read_life l hl
  rw [h] at e
  simp only [optI] at e
  have e1 : cmpD .isN (.int (n : Int)) .none = .ok false := rfl
  simp [f_p_life_at, b_p_life_at, e, e1]
theorem r_value_p (k : Int) (kd : Str) (hk : point kd = true) (g : List Nat) (hg : ∀ c ∈ g, c < 128) (hl : g.length ≤ 10000) (top : List Str) (ht : top.length ≤ 1000) (ht2 : ∀ w ∈ top, w.length ≤ 1000) (n : List Str) (h : readO (g.map lowN) top false = some n) : f_p_value_at [.int k, .str kd, .str (tx g), nm top] = .ok (nm n) := by
  have e := r_name_at g hg hl top ht ht2 false n h k
  have c := point_in kd
  rw [hk] at c
  simp [f_p_value_at, b_p_value_at, c, e]
theorem r_value_s (k : Int) (kd : Str) (hk : point kd = false) (g : List Nat) (hl : g.length ≤ 1000000) (h : valueB g = true) (top : List Str) : f_p_value_at [.int k, .str kd, .str (tx g), nm top] = .ok (.str (tx g)) := by
  have e := r_is_value g hl
  rw [h] at e
  have c := point_in kd
  rw [hk] at c
  simp [f_p_value_at, b_p_value_at, c, e]
def zoneW : List Nat := [122, 111, 110, 101]
theorem zone_s : Str.ofString "zone" = tx zoneW := str_ext (by decide +kernel)
theorem r_head (l a b : List Nat) (hl : l.length ≤ 10000) (hw : wordsL l = [zoneW, a, b]) (h32 : l.head? ≠ some 32) (ha : ∀ c ∈ a, c < 128) (hal : a.length ≤ 10000) (hbl : b.length ≤ 1000000) (T : List Str) (hT : readO (a.map lowN) [] false = some T) (h46 : a.getLast? = some 46) (n : Nat) (hn : lifeO b = some n) (k : Int) :
    f_p_head_of [.int k, .str (tx l)] = .ok (.tuple [nm T, .int n]) := by
  have e1 := r_words_of l (by omega)
  rw [hw] at e1
  simp only [List.map_cons, List.map_nil] at e1
  have e2 := m1_starts 32 l
  rw [decide_eq_false h32] at e2
  have e3 := r_name_at a ha hal [] (by simp) (by simp) false T hT k
  have e4 := r_life_at b hbl n hn k
  have e5 := m1_ends 46 a
  rw [decide_eq_true h46] at e5
  have e6 : f_p_name_at [.int k, .str (tx a), .tuple [], .bool false] = .ok (nm T) := e3
  simp [f_p_head_of, b_p_head_of, e1, blank_s, e2, zone_s, L2.atI, L2.ixN, e6, dot_s, e5, e4]
theorem r_parts (l a b c d : List Nat) (hl : l.length ≤ 100000) (hw : wordsL l = [a, b, c, d]) (h32 : l.head? ≠ some 32) (ha : ∀ c ∈ a, c < 128) (hal : a.length ≤ 10000) (T : List Str) (ht : T.length ≤ 1000) (ht2 : ∀ w ∈ T, w.length ≤ 1000) (n : List Str) (hn : readO (a.map lowN) T true = some n) (hp : n.take T.length = T) (Rs : List Row) (k : Int) :
    f_p_parts_of [.int k, .str (tx l), nm T, .list (Rs.map rowD)] = .ok (.tuple [nm n, .list ([b, c, d].map fun w => PyData.str (tx w))]) := by
  have e1 := r_words_of l (by omega)
  rw [hw] at e1
  simp only [List.map_cons, List.map_nil] at e1
  have e2 := m1_starts 32 l
  rw [decide_eq_false h32] at e2
  have e3 := r_name_at a ha hal T ht ht2 true n hn k
  have e4 := r_at n T
  rw [decide_eq_true hp] at e4
  have e5 : slD (.list [.str (tx a), .str (tx b), .str (tx c), .str (tx d)]) (some 1) none = .ok (.list [.str (tx b), .str (tx c), .str (tx d)]) := by
    have : cutL [PyData.str (tx a), .str (tx b), .str (tx c), .str (tx d)] (some 1) none = [PyData.str (tx b), .str (tx c), .str (tx d)] := cut_from [PyData.str (tx a), .str (tx b), .str (tx c), .str (tx d)] 1
    simp only [slD, this]
  simp [-slD, f_p_parts_of, b_p_parts_of, e1, blank_s, e2, L2.atI, L2.ixN, e3, e4, e5]
theorem r_parts2 (l b c d : List Nat) (hl : l.length ≤ 100000) (hw : wordsL l = [b, c, d]) (h32 : l.head? = some 32) (T : List Str) (Rs : List Row) (r : Row) (hr : Rs.getLast? = some r) (k : Int) :
    f_p_parts_of [.int k, .str (tx l), nm T, .list (Rs.map rowD)] = .ok (.tuple [nm r.nm, .list ([b, c, d].map fun w => PyData.str (tx w))]) := by
  have e1 := r_words_of l (by omega)
  rw [hw] at e1
  simp only [List.map_cons, List.map_nil] at e1
  have e2 := m1_starts 32 l
  rw [decide_eq_true h32] at e2
  have hne : Rs ≠ [] := fun h => by rw [h] at hr; cases hr
  have e3 : cmpD .eq (.list (Rs.map rowD)) (.list []) = .ok (decide (Rs = [])) := encR.lst.eq (by decide) Rs []
  rw [decide_eq_false hne] at e3
  have e4 : ixD (.list (Rs.map rowD)) (.int (-1)) = .ok (rowD r) := by
    have hl0 : 0 < Rs.length := List.length_pos_iff.mpr hne
    have e1 : L2.atI (Rs.map rowD) (-1) = some (rowD r) := by
      unfold L2.atI L2.ixN
      rw [if_neg (by omega), if_pos (by simp; omega)]
      have e : (-1 + ((Rs.map rowD).length : Int)).toNat = Rs.length - 1 := by simp; omega
      simp only [Option.bind_some, e]
      rw [List.getElem?_map, ← List.getLast?_eq_getElem?, hr]
      rfl
    simp only [ixD, e1]
  simp [-ixD, f_p_parts_of, b_p_parts_of, e1, blank_s, e2, e3, e4, row_0]
theorem ix_l0 (a b c : Dat) : ixD (.list [a, b, c]) (.int 0) = .ok a := by simp [L2.atI, L2.ixN]
theorem ix_l1 (a b c : Dat) : ixD (.list [a, b, c]) (.int 1) = .ok b := by simp [L2.atI, L2.ixN]
theorem ix_l2 (a b c : Dat) : ixD (.list [a, b, c]) (.int 2) = .ok c := by simp [L2.atI, L2.ixN]
/-- two rows that do not go together -/
def clashB (x R : Row) : Bool := decide (x.nm = R.nm) && (decide (x.kind = Str.ofString "else") || decide (R.kind = Str.ofString "else") || (decide (x.kind = R.kind) && (decide (R.kind = Str.ofString "down") || decide (x.val = R.val))))
theorem r_clashes (Rs : List Row) (R : Row) : f_p_clashes [rowD R, .list (Rs.map rowD)] = .ok (.bool (Rs.any fun x => clashB x R)) := by
  have hw : exS Q_p_clashes w0_p_clashes [.fz (rowD R), .ln (Rs.map rowD), .un] = cond (Rs.any fun x => clashB x R) (.ret (.bool true)) (.nx [.fz (rowD R), .ln (Rs.map rowD), .un]) := by
    refine for_any rowD Rs (fun x => clashB x R) (.bool true) [.fz (rowD R), .ln (Rs.map rowD), .un] ?_ rfl fun x _ => ⟨[.fz (rowD R), .ln (Rs.map rowD), .fz (rowD x)], rfl, ?_⟩
    · simp
    · have c1 := cmp_nm x.nm R.nm
      have c2 : cmpD .eq (valD x.val) (valD R.val) = .ok (decide (x.val = R.val)) := encV.eq (by decide) _ _
      show if (decide (x.nm = R.nm) && (decide (x.kind = Str.ofString "else") || decide (R.kind = Str.ofString "else") || (decide (x.kind = R.kind) && (decide (R.kind = Str.ofString "down") || decide (x.val = R.val))))) = true then _ else _
      generalize decide (x.nm = R.nm) = b1 at *
      generalize decide (x.val = R.val) = b2 at *
      generalize h3 : decide (x.kind = Str.ofString "else") = b3
      generalize h4 : decide (R.kind = Str.ofString "else") = b4
      generalize h5 : decide (x.kind = R.kind) = b5
      generalize h6 : decide (R.kind = Str.ofString "down") = b6
      have go : exSs Q_p_clashes v0_p_clashes [.fz (rowD R), .ln (Rs.map rowD), .fz (rowD x)] = if (b1 && (b3 || b4 || (b5 && (b6 || b2)))) = true then .ret (.bool true) else .nx [.fz (rowD R), .ln (Rs.map rowD), .fz (rowD x)] := by
        cases b1 <;> cases b2 <;> cases b3 <;> cases b4 <;> cases b5 <;> cases b6 <;>
          simp [-ixD, v0_p_clashes, row_0, row_2, row_3, c1, c2, h3, h4, h5, h6]
      split
      · rename_i hc
        rw [go, if_pos hc]
      · rename_i hc
        exact ⟨_, .inl (by rw [go, if_neg hc]), rfl⟩
  cases q : Rs.any (fun x => clashB x R) with
  | true => rw [q] at hw; simp [f_p_clashes, b_p_clashes, hw]
  | false => rw [q] at hw; simp [f_p_clashes, b_p_clashes, hw]
/-- a down row at the top or at a star -/
def cutBad (R : Row) (T : List Str) : Prop := R.kind = Str.ofString "down" ∧ (R.nm = T ∨ R.nm.getLast? = some (Str.ofString "*"))
theorem r_row_of (l b c d : List Nat) (T n : List Str) (Rs : List Row) (R : Row) (hn : R.nm = n) (hcl : c.length ≤ 1000000) (hbl : b.length ≤ 1000000)
    (hpart : ∀ k : Int, f_p_parts_of [.int k, .str (tx l), nm T, .list (Rs.map rowD)] = .ok (.tuple [nm n, .list ([b, c, d].map fun w => PyData.str (tx w))])) (i : Nat) (hb : lifeO b = some i) (hi : R.life = i) (hc : kindB c = true) (hk : R.kind = tx c)
    (hv : ∀ k : Int, f_p_value_at [.int k, .str (tx c), .str (tx d), nm T] = .ok (valD R.val)) (hcut : ¬ cutBad R T) (hnn : R.kind = Str.ofString "down" → R.nm ≠ []) (hcl2 : (Rs.any fun x => clashB x R) = false) (k : Int) :
    f_p_row_of [.int k, .str (tx l), nm T, .list (Rs.map rowD)] = .ok (rowD R) := by
  have e1 := hpart k
  simp only [List.map_cons, List.map_nil] at e1
  have e2 := r_life_at b hbl i hb k
  have e3 := r_is_kind c hcl
  rw [hc] at e3
  have e4 := hv k
  have e5 := r_clashes Rs R
  rw [hcl2] at e5
  have q : (PyData.tuple [nm n, .int i, .str (tx c), valD R.val]) = rowD R := by
    rw [← hn, ← hk, ← hi]
    rfl
  have c1 := cmp_nm n T
  by_cases hd : R.kind = Str.ofString "down"
  · have h1 : n ≠ T := fun h => hcut ⟨hd, .inl (by rw [hn, h])⟩
    have h2 : n.getLast? ≠ some (Str.ofString "*") := fun h => hcut ⟨hd, .inr (by rw [hn]; exact h)⟩
    have hne : n ≠ [] := by rw [← hn]; exact hnn hd
    obtain ⟨w, hw⟩ : ∃ w, n.getLast? = some w := ⟨_, List.getLast?_eq_some_getLast hne⟩
    have h3 : w ≠ Str.ofString "*" := fun h => h2 (by rw [hw, h])
    have e6 : ixD (nm n) (.int (-1)) = .ok (.str w) := ix_last (n.map PyData.str) (.str w) (by rw [List.getLast?_map, hw]; rfl)
    have e7 : decide (tx c = Str.ofString "down") = true := decide_eq_true (by rw [← hk]; exact hd)
    rw [decide_eq_false h1] at c1
    simp [-ixD, f_p_row_of, b_p_row_of, e1, ix_l0, ix_l1, ix_l2, e2, e3, e4, e7, c1, e6, h3, q, e5]
  · have e7 : decide (tx c = Str.ofString "down") = false := decide_eq_false (by rw [← hk]; exact hd)
    simp [-ixD, f_p_row_of, b_p_row_of, e1, ix_l0, ix_l1, ix_l2, e2, e3, e4, e7, q, e5]
/-- lines that tell rows -/
inductive Reads (T : List Str) : List Row → List (List Nat) → List Row → Prop
  | nil (Rs : List Row) : Reads T Rs [] Rs
  | skip {Rs Rs' : List Row} {l : List Nat} {ls : List (List Nat)} : passB l = true → Reads T Rs ls Rs' → Reads T Rs (l :: ls) Rs'
  | row {Rs Rs' : List Row} {l : List Nat} {ls : List (List Nat)} {r : Row} : passB l = false → (∀ k : Int, f_p_row_of [.int k, .str (tx l), nm T, .list (Rs.map rowD)] = .ok (rowD r)) → Reads T (Rs ++ [r]) ls Rs' → Reads T Rs (l :: ls) Rs'
inductive Heads (T : List Str) (n : Int) : List (List Nat) → List Row → Prop
  | skip {Rs : List Row} {l : List Nat} {ls : List (List Nat)} : passB l = true → Heads T n ls Rs → Heads T n (l :: ls) Rs
  | head {Rs : List Row} {l : List Nat} {ls : List (List Nat)} : passB l = false → (∀ k : Int, f_p_head_of [.int k, .str (tx l)] = .ok (.tuple [nm T, .int n])) → Reads T [] ls Rs → Heads T n (l :: ls) Rs
theorem Reads.len {T : List Str} {Rs Rs' : List Row} {ls : List (List Nat)} (h : Reads T Rs ls Rs') : Rs'.length ≤ Rs.length + ls.length ∧ Rs.length ≤ Rs'.length := by
  induction h with
  | nil Rs => simp
  | skip _ _ ih => simp only [List.length_cons]; omega
  | row _ _ _ ih => simp only [List.length_append, List.length_cons, List.length_nil] at ih ⊢; omega
theorem Heads.len {T : List Str} {n : Int} {Rs : List Row} {ls : List (List Nat)} (h : Heads T n ls Rs) : Rs.length ≤ ls.length := by
  induction h with
  | skip _ _ ih => simp only [List.length_cons]; omega
  | head _ _ h => have := h.len.1; simp at this ⊢; omega
theorem r_read_zone (t : List Nat) (ht : t.length ≤ 900000) (T : List Str) (n : Int) (Rs : List Row) (h : Heads T n (splitL 10 t) Rs) : f_p_read_zone [.str (tx t)] = .ok (zoneD T n Rs) := by
  have hl : Rs.length < 1000000 := by
    have := h.len
    have := splitL_len 10 t
    omega
  have hB : ∀ w ∈ splitL 10 t, w.length ≤ 1000000 := fun w hw => by
    have := (splitL_mem 10 t w hw).1
    omega
  have hw : ∃ k : Nat, exS Q_p_read_zone w0_p_read_zone [.fz (.str (tx t)), .fz .none, .ow [], .fz (.int 0), .un] = .nx [.fz (.str (tx t)), .fz (.tuple [nm T, .int n]), .ow (Rs.map rowD), .fz (.int k), .un] := by
    refine for_st (fun w => PyData.str (tx w)) (splitL 10 t) (fun b : Option (List Row) × Nat => match b with
        | (none, k) => [Sl.fz (.str (tx t)), .fz .none, .ow [], .fz (.int k), .un]
        | (some R, k) => [Sl.fz (.str (tx t)), .fz (.tuple [nm T, .int n]), .ow (R.map rowD), .fz (.int k), .un])
      (fun rest b => (∀ w ∈ rest, w.length ≤ 1000000) ∧ match b with
        | (none, _) => Heads T n rest Rs
        | (some R, _) => Reads T R rest Rs)
      (fun o => ∃ k : Nat, o = .nx [.fz (.str (tx t)), .fz (.tuple [nm T, .int n]), .ow (Rs.map rowD), .fz (.int k), .un]) (none, 0) ?_ ⟨hB, h⟩ rfl ?_ ?_
    · have := m1_split 10 t (by omega)
      simp [line_s, this]
    · rintro ⟨o, k⟩ ⟨_, h⟩
      cases o with
      | none => cases h
      | some R =>
        cases h
        exact ⟨k, rfl⟩
    · rintro l rest ⟨o, k⟩ ⟨hb, h⟩
      have hl1 := hb l (by simp)
      have hb' : ∀ w ∈ rest, w.length ≤ 1000000 := fun w hw => hb w (by simp [hw])
      have ep := r_passed l hl1
      have ek : (k : Int) + 1 = ((k + 1 : Nat) : Int) := by omega
      cases o with
      | none =>
        refine ⟨[.fz (.str (tx t)), .fz .none, .ow [], .fz (.int k), .fz (.str (tx l))], rfl, .inl ?_⟩
        have e0 : cmpD .isN .none .none = .ok true := rfl
        cases h with
        | skip hp h =>
          rw [hp] at ep
          exact ⟨(none, k + 1), [.fz (.str (tx t)), .fz .none, .ow [], .fz (.int ((k + 1 : Nat) : Int)), .fz (.str (tx l))], .inr (by
            generalize ((k + 1 : Nat) : Int) = kk at *
            simp [v0_p_read_zone, ek, ep]), rfl, hb', h⟩
        | head hp hh h =>
          rw [hp] at ep
          have eh := hh ((k + 1 : Nat) : Int)
          exact ⟨(some [], k + 1), [.fz (.str (tx t)), .fz (.tuple [nm T, .int n]), .ow [], .fz (.int ((k + 1 : Nat) : Int)), .fz (.str (tx l))], .inl (by
            generalize ((k + 1 : Nat) : Int) = kk at *
            simp [v0_p_read_zone, ek, ep, e0, eh]), rfl, hb', h⟩
      | some R =>
        refine ⟨[.fz (.str (tx t)), .fz (.tuple [nm T, .int n]), .ow (R.map rowD), .fz (.int k), .fz (.str (tx l))], rfl, .inl ?_⟩
        have e0 : cmpD .isN (.tuple [nm T, .int n]) .none = .ok false := rfl
        cases h with
        | skip hp h =>
          rw [hp] at ep
          exact ⟨(some R, k + 1), [.fz (.str (tx t)), .fz (.tuple [nm T, .int n]), .ow (R.map rowD), .fz (.int ((k + 1 : Nat) : Int)), .fz (.str (tx l))], .inr (by
            generalize ((k + 1 : Nat) : Int) = kk at *
            simp [v0_p_read_zone, ek, ep]), rfl, hb', h⟩
        | @row _ _ _ _ r hp hh h =>
          rw [hp] at ep
          have eh := hh ((k + 1 : Nat) : Int)
          have hlR : R.length < 1000000 := by have := h.len.2; simp at this; omega
          have ei : ixD (.tuple [nm T, .int n]) (.int 0) = .ok (nm T) := by simp [L2.atI, L2.ixN]
          refine ⟨(some (R ++ [r]), k + 1), [.fz (.str (tx t)), .fz (.tuple [nm T, .int n]), .ow ((R ++ [r]).map rowD), .fz (.int ((k + 1 : Nat) : Int)), .fz (.str (tx l))], .inl ?_, rfl, hb', h⟩
          generalize ((k + 1 : Nat) : Int) = kk at *
          generalize (PyData.tuple [nm T, .int n]) = D at *
          simp [-ixD, v0_p_read_zone, ek, ep, e0, ei, eh, hlR]
  obtain ⟨k, hw⟩ := hw
  have e0 : cmpD .isN (.tuple [nm T, .int n]) .none = .ok false := rfl
  have i0 : ixD (.tuple [nm T, .int n]) (.int 0) = .ok (nm T) := by simp [L2.atI, L2.ixN]
  have i1 : ixD (.tuple [nm T, .int n]) (.int 1) = .ok (.int n) := by simp [L2.atI, L2.ixN]
  generalize (PyData.tuple [nm T, .int n]) = D at *
  simp [-ixD, f_p_read_zone, b_p_read_zone, hw, e0, i0, i1, zoneD]
/-- a name as it may stand in a zone -/
structure NmOk (n : List Str) : Prop where
  ex : ∃ A : List Str, A.all isWordS = true ∧ A.length ≤ 9 ∧ (n = A ∨ n = A ++ [Str.ofString "*"])
theorem star_s2 : (Str.ofString "*").cps.toList = [42] := by rw [star_s, tx_list]
def signC (x : Nat) : Prop := x ≠ 32 ∧ x ≠ 10 ∧ x ≠ 59 ∧ x < 128 ∧ lowN x = x
theorem sign_ok : ∀ x ∈ signs, x ≠ 32 ∧ x ≠ 10 ∧ x ≠ 59 ∧ x < 128 ∧ lowN x = x := by decide +kernel
theorem word_sign (w : Str) (h : isWordS w = true) : (∀ x ∈ w.cps.toList, signC x) ∧ w.length ≤ 12 := by
  have hl := (ok_dot w h).2.1
  unfold isWordS isWordL at h
  rw [Bool.and_eq_true, List.all_eq_true] at h
  exact ⟨fun x hx => sign_ok x (of_decide_eq_true (h.2 x hx)), hl⟩
theorem NmOk.wd {n : List Str} (h : NmOk n) : ∀ w ∈ n, (∀ x ∈ w.cps.toList, signC x) ∧ w.length ≤ 12 := fun w hw => by
  obtain ⟨A, a1, a2, a3⟩ := h.ex
  rw [List.all_eq_true] at a1
  rcases a3 with rfl | rfl
  · exact word_sign w (a1 w hw)
  · rcases List.mem_append.mp hw with hw | hw
    · exact word_sign w (a1 w hw)
    · rw [List.mem_singleton] at hw
      subst hw
      refine ⟨fun x hx => ?_, by decide +kernel⟩
      rw [star_s2, List.mem_singleton] at hx
      subst hx
      exact ⟨by decide, by decide, by decide, by decide, by decide⟩
theorem NmOk.len {n : List Str} (h : NmOk n) : n.length ≤ 10 := by
  obtain ⟨A, a1, a2, a3⟩ := h.ex
  rcases a3 with rfl | rfl
  · omega
  · simp; omega
theorem NmOk.part {n : List Str} (h : NmOk n) : Part n := by
  obtain ⟨A, a1, a2, a3⟩ := h.ex
  rcases a3 with rfl | rfl
  · exact part_of _ a1
  · exact part_star _ a1
theorem NmOk.all (A : List Str) (h : A.all isWordS = true) (hl : A.length ≤ 9) : NmOk A := ⟨A, h, hl, .inl rfl⟩
theorem shownL_mem : ∀ (n : List Str) (x : Nat), x ∈ shownL n → x = 46 ∨ ∃ w ∈ n, x ∈ w.cps.toList
  | [], x, h => by simp [shownL] at h
  | w :: r, x, h => by
    simp only [shownL, List.mem_append, List.mem_singleton] at h
    rcases h with h | h | h
    · rcases shownL_mem r x h with h | ⟨v, hv, hx⟩
      · exact .inl h
      · exact .inr ⟨v, by simp [hv], hx⟩
    · exact .inr ⟨w, by simp, h⟩
    · exact .inl h
theorem sh_sign {n : List Str} (h : NmOk n) : ∀ x ∈ sh n, signC x := fun x hx => by
  have h46 : signC 46 := ⟨by decide, by decide, by decide, by decide, by decide⟩
  unfold sh at hx
  split at hx
  · rw [List.mem_singleton] at hx
    subst hx
    exact h46
  · rcases shownL_mem n x hx with rfl | ⟨w, hw, hx⟩
    · exact h46
    · exact (h.wd w hw).1 x hx
theorem sh_last (n : List Str) : (sh n).getLast? = some 46 := by
  unfold sh
  split
  · rfl
  · rename_i h
    cases n with
    | nil => exact absurd rfl h
    | cons w r =>
      show (shownL r ++ (w.cps.toList ++ [46])).getLast? = _
      rw [← List.append_assoc, List.getLast?_concat]
theorem sh_ne (n : List Str) : sh n ≠ [] := fun h => by
  have := sh_last n
  rw [h] at this
  cases this
theorem NmOk.slen {n : List Str} (h : NmOk n) : (sh n).length ≤ 2000 := sh_len n (fun w hw => (h.wd w hw).2) (by have := h.len; omega)
theorem low_map {n : List Str} (h : NmOk n) : (sh n).map lowN = sh n := by
  conv => rhs; rw [← List.map_id (sh n)]
  exact List.map_congr_left fun x hx => (sh_sign h x hx).2.2.2.2
theorem read_plain (A : List Str) (h : A.all isWordS = true) (hl : A.length ≤ 9) (T : List Str) (b : Bool) : readO ((sh A).map lowN) T b = some A := by
  rw [low_map (NmOk.all A h hl)]
  unfold readO
  rw [beneath_sh A (part_of A h) T, if_pos ⟨by omega, plain_all A h b⟩]
theorem read_nm {n : List Str} (h : NmOk n) (T : List Str) : readO ((sh n).map lowN) T true = some n := by
  rw [low_map h]
  unfold readO
  rw [beneath_sh n h.part T]
  obtain ⟨A, a1, a2, a3⟩ := h.ex
  rcases a3 with rfl | rfl
  · rw [if_pos ⟨by omega, plain_all _ a1 true⟩]
  · rw [plain_star, if_pos ⟨by simp; omega, a1⟩]
/-- a row as this law makes them -/
structure LRow (T : List Str) (r : Row) : Prop where
  nm : NmOk r.nm
  pre : r.nm.take T.length = T
  life : ∃ n : Nat, r.life = n ∧ n < 1000000000
  knd : kindB r.kind.cps.toList = true
  vp : point r.kind = true → ∃ A : List Str, r.val = .n A ∧ A.all isWordS = true ∧ A.length ≤ 9
  vs : point r.kind = false → ∃ l : List Nat, r.val = .s (tx l) ∧ valueB l = true
  cut : ¬ cutBad r T
def lifeN (r : Row) : Nat := r.life.toNat
def valL (r : Row) : List Nat := match r.val with
  | .n A => sh A
  | .s x => x.cps.toList
def lineL (r : Row) : List Nat := joinL 32 [sh r.nm, numL (lifeN r), r.kind.cps.toList, valL r]
def headL (T : List Str) (n : Nat) : List Nat := joinL 32 [zoneW, sh T, numL n]
def textL (T : List Str) (n : Nat) (Rs : List Row) : List Nat := joinL 10 (headL T n :: Rs.map lineL)
theorem letters_ok : ∀ x ∈ letters, signC x := by
  have : ∀ x ∈ letters, x ≠ 32 ∧ x ≠ 10 ∧ x ≠ 59 ∧ x < 128 ∧ lowN x = x := by decide +kernel
  exact this
theorem figures_ok : ∀ x ∈ figures, signC x := by
  have : ∀ x ∈ figures, x ≠ 32 ∧ x ≠ 10 ∧ x ≠ 59 ∧ x < 128 ∧ lowN x = x := by decide +kernel
  exact this
theorem num_sign (n : Nat) : ∀ x ∈ numL n, signC x := fun x hx => figures_ok x (of_decide_eq_true (List.all_eq_true.mp (numL_fig n) x hx))
theorem num_ne (n : Nat) : numL n ≠ [] := fun h => by
  have := numL_pos n
  rw [h] at this
  simp at this
theorem kind_sign (l : List Nat) (h : kindB l = true) : (∀ x ∈ l, signC x) ∧ l ≠ [] ∧ l.length ≤ 8 := by
  unfold kindB at h
  rw [Bool.and_eq_true, decide_eq_true_eq, List.all_eq_true] at h
  exact ⟨fun x hx => letters_ok x (of_decide_eq_true (h.2 x hx)), fun e => by rw [e] at h; simp at h, h.1.2⟩
theorem value_sign (l : List Nat) (h : valueB l = true) : (∀ x ∈ l, x ≠ 32 ∧ x ≠ 10) ∧ l ≠ [] ∧ l.length ≤ 40 := by
  unfold valueB at h
  rw [Bool.and_eq_true, decide_eq_true_eq, List.all_eq_true] at h
  refine ⟨fun x hx => ?_, fun e => by rw [e] at h; simp at h, h.1.2⟩
  have := h.2 x hx
  simp only [valueC, Bool.and_eq_true, decide_eq_true_eq] at this
  omega
theorem LRow.val_ok {T : List Str} {r : Row} (h : LRow T r) : (∀ x ∈ valL r, x ≠ 32 ∧ x ≠ 10) ∧ valL r ≠ [] ∧ (valL r).length ≤ 2000 := by
  unfold valL
  cases hp : point r.kind with
  | true =>
    obtain ⟨A, a1, a2, a3⟩ := h.vp hp
    rw [a1]
    have ok := NmOk.all A a2 a3
    exact ⟨fun x hx => ⟨(sh_sign ok x hx).1, (sh_sign ok x hx).2.1⟩, sh_ne A, ok.slen⟩
  | false =>
    obtain ⟨l, a1, a2⟩ := h.vs hp
    rw [a1]
    simp only [tx_list]
    have := value_sign l a2
    exact ⟨this.1, this.2.1, by omega⟩
theorem line_words {T : List Str} {r : Row} (h : LRow T r) : wordsL (lineL r) = [sh r.nm, numL (lifeN r), r.kind.cps.toList, valL r] := by
  refine words_join _ (by simp) fun w hw => ?_
  have hk := kind_sign _ h.knd
  have hv := h.val_ok
  simp only [List.mem_cons, List.not_mem_nil, or_false] at hw
  rcases hw with rfl | rfl | rfl | rfl
  · exact ⟨sh_ne _, fun x hx => (sh_sign h.nm x hx).1⟩
  · exact ⟨num_ne _, fun x hx => (num_sign _ x hx).1⟩
  · exact ⟨hk.2.1, fun x hx => (hk.1 x hx).1⟩
  · exact ⟨hv.2.1, fun x hx => (hv.1 x hx).1⟩
theorem head_words {T : List Str} (h : NmOk T) (n : Nat) : wordsL (headL T n) = [zoneW, sh T, numL n] := by
  refine words_join _ (by simp) fun w hw => ?_
  simp only [List.mem_cons, List.not_mem_nil, or_false] at hw
  rcases hw with rfl | rfl | rfl
  · exact ⟨by decide, by decide⟩
  · exact ⟨sh_ne _, fun x hx => (sh_sign h x hx).1⟩
  · exact ⟨num_ne _, fun x hx => (num_sign _ x hx).1⟩
theorem head_of_join (c : Nat) (w : List Nat) (ws : List (List Nat)) (hw : w ≠ []) : (joinL c (w :: ws)).head? = w.head? := by
  cases w with
  | nil => exact absurd rfl hw
  | cons x r =>
    cases ws with
    | nil => rfl
    | cons v u => rfl
theorem sh_head {n : List Str} (h : NmOk n) (x : Nat) (hx : (sh n).head? = some x) : signC x := sh_sign h x (List.mem_of_mem_head? hx)
theorem num_len9 (n : Nat) (h : n < 1000000000) : (numL n).length ≤ 9 := (numL_len n 9 (by decide)).2 (by simpa using h)
theorem line_len {T : List Str} {r : Row} (h : LRow T r) : (lineL r).length ≤ 8004 := by
  have := joinL_len 32 2000 [sh r.nm, numL (lifeN r), r.kind.cps.toList, valL r] fun w hw => by
    have hk := kind_sign _ h.knd
    have hv := h.val_ok
    obtain ⟨n, e1, e2⟩ := h.life
    simp only [List.mem_cons, List.not_mem_nil, or_false] at hw
    rcases hw with rfl | rfl | rfl | rfl
    · exact h.nm.slen
    · have : lifeN r = n := by unfold lifeN; omega
      rw [this]
      have := num_len9 n e2
      omega
    · omega
    · exact hv.2.2
  exact Nat.le_trans this (by show 4 * 2001 ≤ 8004; decide)
theorem head_len {T : List Str} (h : NmOk T) (n : Nat) (hn : n < 1000000000) : (headL T n).length ≤ 6003 := by
  have := joinL_len 32 2000 [zoneW, sh T, numL n] fun w hw => by
    simp only [List.mem_cons, List.not_mem_nil, or_false] at hw
    rcases hw with rfl | rfl | rfl
    · decide
    · exact h.slen
    · have := num_len9 n hn
      omega
  exact Nat.le_trans this (by show 3 * 2001 ≤ 6003; decide)
theorem line_pass {T : List Str} {r : Row} (h : LRow T r) : passB (lineL r) = false := by
  obtain ⟨x, hx⟩ : ∃ x, (sh r.nm).head? = some x := by
    cases q : sh r.nm with
    | nil => exact absurd q (sh_ne _)
    | cons x t => exact ⟨x, rfl⟩
  have s := sh_head h.nm x hx
  have e : (lineL r).head? = some x := by
    unfold lineL
    rw [head_of_join 32 _ _ (sh_ne _), hx]
  unfold passB
  rw [e, Bool.or_eq_false_iff, decide_eq_false_iff_not, decide_eq_false_iff_not]
  exact ⟨fun q => s.1 (q x (List.mem_of_mem_head? e)), fun q => s.2.2.1 (by simpa using q)⟩
theorem head_pass (T : List Str) (n : Nat) : passB (headL T n) = false := by
  have e : (headL T n).head? = some 122 := by
    unfold headL
    rw [head_of_join 32 _ _ (by decide)]
    rfl
  unfold passB
  rw [e, Bool.or_eq_false_iff, decide_eq_false_iff_not, decide_eq_false_iff_not]
  exact ⟨fun q => by have := q 122 (List.mem_of_mem_head? e); omega, by decide⟩
theorem head_reads {T : List Str} (hT : T.all isWordS = true) (hl : T.length ≤ 9) (n : Nat) (hn : n < 1000000000) (k : Int) : f_p_head_of [.int k, .str (tx (headL T n))] = .ok (.tuple [nm T, .int n]) := by
  have ok := NmOk.all T hT hl
  have e : (headL T n).head? = some 122 := by
    unfold headL
    rw [head_of_join 32 _ _ (by decide)]
    rfl
  refine r_head (headL T n) (sh T) (numL n) (by have := head_len ok n hn; omega) (head_words ok n) (by rw [e]; decide) (fun c hc => (sh_sign ok c hc).2.2.2.1) (by have := ok.slen; omega) (by have := num_len9 n hn; omega) T ?_ (sh_last T) n (life_num n hn) k
  exact read_plain T hT hl [] false
theorem line_reads {T : List Str} (hT : T.all isWordS = true) (hl : T.length ≤ 9) (Rs : List Row) (r : Row) (h : LRow T r) (hc : (Rs.any fun x => clashB x r) = false) (k : Int) : f_p_row_of [.int k, .str (tx (lineL r)), nm T, .list (Rs.map rowD)] = .ok (rowD r) := by
  obtain ⟨n, e1, e2⟩ := h.life
  have en : lifeN r = n := by unfold lifeN; omega
  have hk := kind_sign _ h.knd
  have hT2 : ∀ w ∈ T, w.length ≤ 1000 := fun w hw => by
    have := ((NmOk.all T hT hl).wd w hw).2
    omega
  have h32 : (lineL r).head? ≠ some 32 := by
    unfold lineL
    rw [head_of_join 32 _ _ (sh_ne _)]
    exact fun q => (sh_head h.nm 32 q).1 rfl
  refine r_row_of (lineL r) (numL (lifeN r)) r.kind.cps.toList (valL r) T r.nm Rs r rfl (by omega) (by rw [en]; have := num_len9 n e2; omega) (fun k => ?_) n (by rw [en]; exact life_num n e2) e1 h.knd (tx_of _).symm (fun k => ?_) h.cut (fun hd he => ?_) hc k
  · exact r_parts (lineL r) (sh r.nm) (numL (lifeN r)) r.kind.cps.toList (valL r) (by have := line_len h; omega) (line_words h) h32 (fun c hc => (sh_sign h.nm c hc).2.2.2.1) (by have := h.nm.slen; omega) T (by omega) hT2 r.nm (read_nm h.nm T) h.pre Rs k
  · have ek : tx r.kind.cps.toList = r.kind := tx_of _
    rw [ek]
    cases hp : point r.kind with
    | true =>
      obtain ⟨A, a1, a2, a3⟩ := h.vp hp
      have ok := NmOk.all A a2 a3
      have := r_value_p k r.kind hp (sh A) (fun c hc => (sh_sign ok c hc).2.2.2.1) (by have := ok.slen; omega) T (by omega) hT2 A (read_plain A a2 a3 T false)
      unfold valL
      rw [a1]
      exact this
    | false =>
      obtain ⟨l, a1, a2⟩ := h.vs hp
      have := r_value_s k r.kind hp l (by have := (value_sign l a2).2.2; omega) a2 T
      unfold valL
      rw [a1]
      simp only [tx_list]
      exact this
  · have := h.pre
    rw [he] at this
    have hT0 : T = [] := by simpa using this.symm
    exact h.cut ⟨hd, .inl (by rw [he, hT0])⟩
theorem reads_all {T : List Str} (hT : T.all isWordS = true) (hl : T.length ≤ 9) : ∀ (Rs Q : List Row), (∀ r ∈ Rs, LRow T r) → (∀ r ∈ Rs, ∀ x ∈ Q, clashB x r = false) → Rs.Pairwise (fun x r => clashB x r = false) → Reads T Q (Rs.map lineL) (Q ++ Rs)
  | [], Q, _, _, _ => by
    rw [List.append_nil]
    exact .nil Q
  | r :: Rs, Q, h, hq, hp => by
    rw [List.pairwise_cons] at hp
    rw [List.map_cons]
    refine .row (r := r) (line_pass (h r (by simp))) (fun k => line_reads hT hl Q r (h r (by simp)) ?_ k) ?_
    · rw [List.any_eq_false]
      exact fun x hx => by rw [hq r (by simp) x hx]; decide
    · have := reads_all hT hl Rs (Q ++ [r]) (fun x hx => h x (by simp [hx])) (fun x hx y hy => by
        rcases List.mem_append.mp hy with hy | hy
        · exact hq x (by simp [hx]) y hy
        · rw [List.mem_singleton] at hy
          subst hy
          exact hp.1 x hx) hp.2
      rw [List.append_assoc] at this
      exact this
theorem text_len {T : List Str} (h : NmOk T) (n : Nat) (hn : n < 1000000000) (Rs : List Row) (hR : Rs.length ≤ 60) (g : ∀ r ∈ Rs, LRow T r) : (textL T n Rs).length ≤ 600000 := by
  have := joinL_len 10 8004 (headL T n :: Rs.map lineL) fun w hw => by
    simp only [List.mem_cons, List.mem_map] at hw
    rcases hw with rfl | ⟨r, hr, rfl⟩
    · have := head_len h n hn
      omega
    · exact line_len (g r hr)
  simp only [List.length_cons, List.length_map] at this
  have h2 : (Rs.length + 1) * (8004 + 1) ≤ 61 * 8005 := Nat.mul_le_mul (by omega) (by omega)
  unfold textL
  omega
theorem line_no10 {T : List Str} {r : Row} (h : LRow T r) : ∀ x ∈ lineL r, x ≠ 10 := fun x hx => by
  unfold lineL at hx
  have hk := kind_sign _ h.knd
  have hv := h.val_ok
  rcases joinL_mem 32 _ x hx with rfl | ⟨w, hw, hx⟩
  · decide
  · simp only [List.mem_cons, List.not_mem_nil, or_false] at hw
    rcases hw with rfl | rfl | rfl | rfl
    · exact (sh_sign h.nm x hx).2.1
    · exact (num_sign _ x hx).2.1
    · exact (hk.1 x hx).2.1
    · exact (hv.1 x hx).2
theorem head_no10 {T : List Str} (h : NmOk T) (n : Nat) : ∀ x ∈ headL T n, x ≠ 10 := fun x hx => by
  unfold headL at hx
  rcases joinL_mem 32 _ x hx with rfl | ⟨w, hw, hx⟩
  · decide
  · simp only [List.mem_cons, List.not_mem_nil, or_false] at hw
    rcases hw with rfl | rfl | rfl
    · have : ∀ x ∈ zoneW, x ≠ 10 := by decide
      exact this x hx
    · exact (sh_sign h x hx).2.1
    · exact (num_sign _ x hx).2.1
theorem zone_read {T : List Str} (hT : T.all isWordS = true) (hl : T.length ≤ 9) (n : Nat) (hn : n < 1000000000) (Rs : List Row) (hR : Rs.length ≤ 60) (g : ∀ r ∈ Rs, LRow T r) (hp : Rs.Pairwise (fun x r => clashB x r = false)) : f_p_read_zone [.str (tx (textL T n Rs))] = .ok (zoneD T n Rs) := by
  have ok := NmOk.all T hT hl
  refine r_read_zone _ (by have := text_len ok n hn Rs hR g; omega) T n Rs ?_
  unfold textL
  rw [splitL_join 10 _ (by simp) fun w hw => by
    simp only [List.mem_cons, List.mem_map] at hw
    rcases hw with rfl | ⟨r, hr, rfl⟩
    · exact head_no10 ok n
    · exact line_no10 (g r hr)]
  exact .head (head_pass T n) (head_reads hT hl n hn) (by simpa using reads_all hT hl Rs [] g (by simp) hp)
/-- the texts are made -/
theorem join_one (c : Nat) (a v : List Nat) : ∀ r : List (List Nat), joinL c ((a ++ [c] ++ v) :: r) = a ++ c :: joinL c (v :: r)
  | [] => by simp [joinL]
  | u :: r => by simp [joinL]
theorem fold_join (c : Nat) : ∀ (ws : List Str) (w : List Nat), ws.foldl (fun t x => t ++ (tx [c]).cps.toList ++ x.cps.toList) w = joinL c (w :: ws.map fun s => s.cps.toList)
  | [], w => rfl
  | v :: r, w => by
    rw [List.foldl_cons, fold_join c r, tx_list, join_one]
    rfl
theorem join_s (c : Nat) (ls : List (List Nat)) (B : Nat) (hB : ∀ w ∈ ls, w.length ≤ B) (h : ls.length * (B + 1) ≤ 1000000) : m1D .join (.str (tx [c])) (.list (ls.map fun w => PyData.str (tx w))) = .ok (.str (tx (joinL c ls))) := by
  have e0 : (ls.map fun w => PyData.str (tx w)) = (ls.map tx).map PyData.str := by rw [List.map_map]; rfl
  have e1 : Txt.join (tx [c]) (ls.map tx) = tx (joinL c ls) := by
    cases ls with
    | nil => rfl
    | cons w ls =>
      rw [List.map_cons, join_list, fold_join, List.map_map]
      have : (ls.map ((fun s : Str => s.cps.toList) ∘ tx)) = ls := by
        conv => rhs; rw [← List.map_id ls]
        exact List.map_congr_left fun w _ => tx_list w
      rw [this, tx_list]
  have hs : ((ls.map tx).map (·.length)).sum ≤ ls.length * B := by
    clear h e0 e1
    induction ls with
    | nil => simp
    | cons w ls ih =>
      have h1 := hB w (by simp)
      have h2 := ih fun x hx => hB x (by simp [hx])
      simp only [List.map_cons, List.sum_cons, tx_len, List.length_cons, Nat.add_mul] at h2 ⊢
      omega
  simp only [m1D, joinD]
  rw [e0, strsD_map]
  simp only
  rw [if_pos, e1]
  rw [List.length_map, tx_len]
  simp only [List.length_cons, List.length_nil]
  have : ls.length * (B + 1) = ls.length * B + ls.length := by rw [Nat.mul_add, Nat.mul_one]
  omega
theorem four_join (a b c d : List Nat) : a ++ [32] ++ b ++ [32] ++ c ++ [32] ++ d = joinL 32 [a, b, c, d] := by simp [joinL]
theorem three_join (a b c : List Nat) : a ++ [32] ++ b ++ [32] ++ c = joinL 32 [a, b, c] := by simp [joinL]
theorem bi_num (n : Nat) (h : n < 1000000000) : biD .str [.int (n : Int)] = .ok (.str (tx (numL n))) := by
  rw [← numS_tx]
  refine bi_str _ (by omega) ?_
  have : (1000000000 : Int) ≤ 10 ^ 40 := by decide +kernel
  omega
theorem good_nm {n : List Str} (h : NmOk n) : GoodN n := ⟨by have := h.len; omega, fun w hw => by have := (h.wd w hw).2; omega⟩
theorem cat_ok (a b : List Nat) (ha : a.length ≤ 400000) (hb : b.length ≤ 400000) : binD .add (.str (tx a)) (.str (tx b)) = .ok (.str (tx (a ++ b))) := by
  rw [bin_cat _ _ (by rw [tx_len, tx_len]; omega), tx_cat]
theorem line_made {T : List Str} {r : Row} (h : LRow T r) :
    (((((binD .add (.str (tx (sh r.nm))) (.str (tx [32])) >>= fun d => binD .add d (.str (tx (numL (lifeN r))))) >>= fun d => binD .add d (.str (tx [32]))) >>= fun d => binD .add d (.str r.kind)) >>= fun d => binD .add d (.str (tx [32]))) >>= fun d => binD .add d (.str (tx (valL r)))) = .ok (.str (tx (lineL r))) := by
  have h1 := h.nm.slen
  obtain ⟨n, e1, e2⟩ := h.life
  have en : lifeN r = n := by unfold lifeN; omega
  have h2 := num_len9 n e2
  rw [en]
  have h3 := kind_sign _ h.knd
  have h4 := h.val_ok
  have ek : r.kind = tx r.kind.cps.toList := (tx_of _).symm
  unfold lineL
  rw [en, ek, ← four_join, tx_list]
  generalize sh r.nm = A at *
  generalize numL n = B at *
  generalize r.kind.cps.toList = C at *
  generalize valL r = D at *
  rw [cat_ok _ _ (by omega) (by simp), ok_bind, cat_ok _ _ (by simp; omega) (by omega), ok_bind, cat_ok _ _ (by simp; omega) (by simp), ok_bind, cat_ok _ _ (by simp; omega) (by omega), ok_bind, cat_ok _ _ (by simp; omega) (by simp), ok_bind, cat_ok _ _ (by simp; omega) (by omega)]
theorem binR_bind (o : Bop) (r s : Res Dat) : binR o r s = (r >>= fun d => s >>= fun e => binD o d e) := rfl
theorem val_of {T : List Str} {r : Row} (h : LRow T r) : (point r.kind = true ∧ ∃ A, r.val = .n A ∧ NmOk A ∧ valL r = sh A) ∨ (point r.kind = false ∧ valD r.val = .str (tx (valL r))) := by
  cases hp : point r.kind with
  | true =>
    obtain ⟨A, a1, a2, a3⟩ := h.vp hp
    exact .inl ⟨rfl, A, a1, NmOk.all A a2 a3, by unfold valL; rw [a1]⟩
  | false =>
    obtain ⟨l, a1, a2⟩ := h.vs hp
    refine .inr ⟨rfl, ?_⟩
    unfold valL
    rw [a1]
    simp only [valD, tx_list]
theorem zone5 : Str.ofString "zone " = tx [122, 111, 110, 101, 32] := str_ext (by decide +kernel)
theorem head_made {T : List Str} (h : NmOk T) (n : Nat) (hn : n < 1000000000) :
    ((binD .add (.str (tx [122, 111, 110, 101, 32])) (.str (tx (sh T))) >>= fun d => binD .add d (.str (tx [32]))) >>= fun d => binD .add d (.str (tx (numL n)))) = .ok (.str (tx (headL T n))) := by
  have h1 := h.slen
  have h2 := num_len9 n hn
  unfold headL
  have e : joinL 32 [zoneW, sh T, numL n] = [122, 111, 110, 101, 32] ++ sh T ++ [32] ++ numL n := by simp [joinL, zoneW]
  rw [e]
  generalize sh T = A at *
  generalize numL n = B at *
  rw [cat_ok _ _ (by simp) (by omega), ok_bind, cat_ok _ _ (by simp; omega) (by simp), ok_bind, cat_ok _ _ (by simp; omega) (by omega)]
theorem lines_join {T : List Str} (h : NmOk T) (n : Nat) (hn : n < 1000000000) (Rs : List Row) (hR : Rs.length ≤ 60) (g : ∀ r ∈ Rs, LRow T r) : m1D .join (.str (tx [10])) (.list ((headL T n :: Rs.map lineL).map fun w => PyData.str (tx w))) = .ok (.str (tx (textL T n Rs))) := by
  refine join_s 10 _ 8004 (fun w hw => ?_) ?_
  · simp only [List.mem_cons, List.mem_map] at hw
    rcases hw with rfl | ⟨r, hr, rfl⟩
    · have := head_len h n hn
      omega
    · exact line_len (g r hr)
  · simp only [List.length_cons, List.length_map]
    have h2 : (Rs.length + 1) * (8004 + 1) ≤ 61 * 8005 := Nat.mul_le_mul (by omega) (by omega)
    omega
theorem r_name_text (n : List Str) (g : GoodN n) : f_l_name_text [nm n] = .ok (.str (shown n)) := by
  by_cases h : n = []
  · subst h
    have e : cmpD .eq (.tuple []) (.tuple []) = .ok true := by rw [nm_nil, cmp_nm]; simp
    simp [f_l_name_text, b_l_name_text, shown, dot_s, nm, e]
  · have e : cmpD .eq (nm n) (.tuple []) = .ok false := by rw [nm_nil, cmp_nm]; simp [h]
    have hw : exS Q_l_name_text w0_l_name_text [.fz (nm n), .fz (.str (tx [])), .un] = _ := (for_fold PyData.str n (fun t : List Nat => [Sl.fz (nm n), .fz (.str (tx t)), .un]) (fun t w => w.cps.toList ++ [46] ++ t) (fun r t => t.length + 101 * r.length ≤ 10100) []
      (by simp [nm]) (by have := g.len; simp; omega) rfl (fun t w r hw hr => by
        have h1 := g.wd w hw
        rw [str_len] at h1
        simp only [List.length_cons] at hr
        refine ⟨by simp only [List.length_append, List.length_cons, List.length_nil]; omega, _, [.fz (nm n), .fz (.str (tx (w.cps.toList ++ [46] ++ t))), .fz (.str w)], rfl, .inl ?_, rfl⟩
        obtain ⟨l, rfl⟩ : ∃ l, w = tx l := ⟨_, (tx_of w).symm⟩
        simp only [tx_list] at h1
        have b1 : l.length + 1 ≤ 1000000 := by omega
        have b2 : l.length + 1 + t.length ≤ 1000000 := by omega
        simp [v0_l_name_text, dot_s, bin_cat, tx_cat, b1, b2])).1
    rw [shown_fold] at hw
    simp [f_l_name_text, b_l_name_text, e, empty_s, hw, shown, h]
theorem kind_in2 (k : Str) : cmpD .isin (.str k) (.list [.str (Str.ofString "down"), .str (Str.ofString "else")]) = .ok (point k) := by
  have := encS.isin (by decide) k [Str.ofString "down", Str.ofString "else"]
  have e : decide (k ∈ [Str.ofString "down", Str.ofString "else"]) = point k := by
    unfold point
    rw [Bool.eq_iff_iff]
    simp [or_comm]
  rw [e] at this
  exact this
theorem at_any {α : Type} (e : α → Dat) (L : List α) (i : Int) (h : 0 ≤ i) (h' : i < L.length) : ∃ x ∈ L, ixD (.list (L.map e)) (.int i) = .ok (e x) := by
  obtain ⟨n, rfl⟩ := Int.eq_ofNat_of_zero_le h
  have hn : n < L.length := by omega
  refine ⟨L[n], List.getElem_mem hn, ?_⟩
  have z : L2.atI (L.map e) (n : Int) = some (e L[n]) := by
    rw [atI_nat]
    simp [hn]
  simp only [ixD, z]
theorem letters_len : letters.length = 26 := by decide +kernel
theorem kinds_ok : ∀ k ∈ [Str.ofString "mark", Str.ofString "door", Str.ofString "else", Str.ofString "down"], kindB k.cps.toList = true := by decide +kernel
structure LRow0 (T : List Str) (r : Row) : Prop where
  nm : NmOk r.nm
  pre : r.nm.take T.length = T
  life : ∃ n : Nat, r.life = n ∧ n < 1000000000
  knd : kindB r.kind.cps.toList = true
  vp : point r.kind = true → ∃ A : List Str, r.val = .n A ∧ A.all isWordS = true ∧ A.length ≤ 9
  vs : point r.kind = false → ∃ l : List Nat, r.val = .s (tx l) ∧ valueB l = true
theorem all_of {W N : List Str} (gW : ∀ w ∈ W, GoodW w) (h : ∀ w ∈ N, w ∈ W) : N.all isWordS = true := by
  rw [List.all_eq_true]
  exact fun w hw => word_ok w (gW w (h w hw))
theorem take_app (a b : List Str) : (a ++ b).take a.length = a := by simp
/-- what a wrong line is refused by -/
def Parts (T : List Str) (Rs : List Row) (l : List Nat) (n : List Str) (ws : List (List Nat)) : Prop := ∀ k : Int, f_p_parts_of [.int k, .str (tx l), nm T, .list (Rs.map rowD)] = .ok (.tuple [nm n, .list (ws.map fun w => PyData.str (tx w))])
def Ref (T : List Str) (Rs : List Row) (l : List Nat) (C : Str) : Prop := ∀ k : Int, f_p_row_of [.int k, .str (tx l), nm T, .list (Rs.map rowD)] = .exc C (some (.int k))
theorem rf_name_at (g : List Nat) (hg : ∀ c ∈ g, c < 128) (hl : g.length ≤ 10000) (top : List Str) (ht : top.length ≤ 1000) (ht2 : ∀ w ∈ top, w.length ≤ 1000) (star : Bool) (h : readO (g.map lowN) top star = none) (k : Int) : f_p_name_at [.int k, .str (tx g), nm top, .bool star] = .exc "BadName" (some (.int k)) := by
  have e := r_read g hg hl top ht ht2 star
  rw [h] at e
  simp only [resO] at e
  simp [f_p_name_at, b_p_name_at, e]
theorem rf_life_at (l : List Nat) (hl : l.length ≤ 1000000) (h : lifeO l = none) (k : Int) : f_p_life_at [.int k, .str (tx l)] = .exc "BadRow" (some (.int k)) := by
  have e := r_read_life l hl
  rw [h] at e
  simp only [optI] at e
  have e1 : cmpD .isN .none .none = .ok true := rfl
  simp [f_p_life_at, b_p_life_at, e, e1]
theorem rf_value_p (k : Int) (kd : Str) (hk : point kd = true) (g : List Nat) (hg : ∀ c ∈ g, c < 128) (hl : g.length ≤ 10000) (top : List Str) (ht : top.length ≤ 1000) (ht2 : ∀ w ∈ top, w.length ≤ 1000) (h : readO (g.map lowN) top false = none) : f_p_value_at [.int k, .str kd, .str (tx g), nm top] = .exc "BadName" (some (.int k)) := by
  have e := rf_name_at g hg hl top ht ht2 false h k
  have c := point_in kd
  rw [hk] at c
  simp [f_p_value_at, b_p_value_at, c, e]
theorem rf_value_s (k : Int) (kd : Str) (hk : point kd = false) (g : List Nat) (hl : g.length ≤ 1000000) (h : valueB g = false) (top : List Str) : f_p_value_at [.int k, .str kd, .str (tx g), nm top] = .exc "BadRow" (some (.int k)) := by
  have e := r_is_value g hl
  rw [h] at e
  have c := point_in kd
  rw [hk] at c
  simp [f_p_value_at, b_p_value_at, c, e]
theorem len_list (L : List Dat) (h : L.length ≤ 1000000) : biD .len [.list L] = .ok (.int L.length) := by
  simp [biD, h]
theorem rf_parts_many (l : List Nat) (hl : l.length ≤ 100000) (h32 : l.head? ≠ some 32) (hw : (wordsL l).length ≠ 4) (T : List Str) (Rs : List Row) (k : Int) :
    f_p_parts_of [.int k, .str (tx l), nm T, .list (Rs.map rowD)] = .exc "BadRow" (some (.int k)) := by
  have e1 := r_words_of l hl
  have e2 := m1_starts 32 l
  rw [decide_eq_false h32] at e2
  have e3 : biD .len [.list ((wordsL l).map fun w => PyData.str (tx w))] = .ok (.int (wordsL l).length) := by simp only [biD, List.length_map]
  have e4 : ((wordsL l).length : Int) ≠ 4 := by omega
  generalize ((wordsL l).map fun w => PyData.str (tx w)) = W at *
  generalize ((wordsL l).length : Int) = N at *
  simp [-biD, f_p_parts_of, b_p_parts_of, e1, blank_s, e2, e3, e4]
theorem rf_parts_blank (l : List Nat) (hl : l.length ≤ 100000) (h32 : l.head? = some 32) (T : List Str) (Rs : List Row) (hw : (wordsL l).length ≠ 3 ∨ Rs = []) (k : Int) :
    f_p_parts_of [.int k, .str (tx l), nm T, .list (Rs.map rowD)] = .exc "BadRow" (some (.int k)) := by
  have e1 := r_words_of l hl
  have e2 := m1_starts 32 l
  rw [decide_eq_true h32] at e2
  have e3 : biD .len [.list ((wordsL l).map fun w => PyData.str (tx w))] = .ok (.int (wordsL l).length) := by simp only [biD, List.length_map]
  have e5 : cmpD .eq (.list (Rs.map rowD)) (.list []) = .ok (decide (Rs = [])) := encR.lst.eq (by decide) Rs []
  by_cases h3 : (wordsL l).length = 3
  · have h4 : Rs = [] := hw.resolve_left fun h => h h3
    rw [decide_eq_true h4] at e5
    rw [h3] at e3
    generalize ((wordsL l).map fun w => PyData.str (tx w)) = W at *
    simp [-biD, f_p_parts_of, b_p_parts_of, e1, blank_s, e2, e3, e5]
  · have e4 : ((wordsL l).length : Int) ≠ 3 := by omega
    generalize ((wordsL l).map fun w => PyData.str (tx w)) = W at *
    generalize ((wordsL l).length : Int) = N at *
    simp [-biD, f_p_parts_of, b_p_parts_of, e1, blank_s, e2, e3, e4]
theorem rf_parts_name (l a b c d : List Nat) (hl : l.length ≤ 100000) (hw : wordsL l = [a, b, c, d]) (h32 : l.head? ≠ some 32) (ha : ∀ c ∈ a, c < 128) (hal : a.length ≤ 10000) (T : List Str) (ht : T.length ≤ 1000) (ht2 : ∀ w ∈ T, w.length ≤ 1000) (hn : readO (a.map lowN) T true = none) (Rs : List Row) (k : Int) :
    f_p_parts_of [.int k, .str (tx l), nm T, .list (Rs.map rowD)] = .exc "BadName" (some (.int k)) := by
  have e1 := r_words_of l hl
  rw [hw] at e1
  simp only [List.map_cons, List.map_nil] at e1
  have e2 := m1_starts 32 l
  rw [decide_eq_false h32] at e2
  have e3 := rf_name_at a ha hal T ht ht2 true hn k
  simp [-slD, f_p_parts_of, b_p_parts_of, e1, blank_s, e2, L2.atI, L2.ixN, e3]
theorem rf_parts_out (l a b c d : List Nat) (hl : l.length ≤ 100000) (hw : wordsL l = [a, b, c, d]) (h32 : l.head? ≠ some 32) (ha : ∀ c ∈ a, c < 128) (hal : a.length ≤ 10000) (T : List Str) (ht : T.length ≤ 1000) (ht2 : ∀ w ∈ T, w.length ≤ 1000) (n : List Str) (hn : readO (a.map lowN) T true = some n) (hp : n.take T.length ≠ T) (Rs : List Row) (k : Int) :
    f_p_parts_of [.int k, .str (tx l), nm T, .list (Rs.map rowD)] = .exc "Outside" (some (.int k)) := by
  have e1 := r_words_of l hl
  rw [hw] at e1
  simp only [List.map_cons, List.map_nil] at e1
  have e2 := m1_starts 32 l
  rw [decide_eq_false h32] at e2
  have e3 := r_name_at a ha hal T ht ht2 true n hn k
  have e4 := r_at n T
  rw [decide_eq_false hp] at e4
  simp [-slD, f_p_parts_of, b_p_parts_of, e1, blank_s, e2, L2.atI, L2.ixN, e3, e4]
theorem rf_row_parts {T : List Str} {Rs : List Row} {l : List Nat} {C : Str} (hp : ∀ k : Int, f_p_parts_of [.int k, .str (tx l), nm T, .list (Rs.map rowD)] = .exc C (some (.int k))) : Ref T Rs l C := fun k => by
  have e1 := hp k
  simp [f_p_row_of, b_p_row_of, e1]
theorem rf_row_life {T : List Str} {Rs : List Row} {l b c d : List Nat} {n : List Str} (hp : Parts T Rs l n [b, c, d]) (hbl : b.length ≤ 1000000) (hb : lifeO b = none) : Ref T Rs l "BadRow" := fun k => by
  have e1 := hp k
  simp only [List.map_cons, List.map_nil] at e1
  have e2 := rf_life_at b hbl hb k
  simp [-ixD, f_p_row_of, b_p_row_of, e1, ix_l0, ix_l1, ix_l2, e2]
theorem rf_row_kind {T : List Str} {Rs : List Row} {l b c d : List Nat} {n : List Str} (hp : Parts T Rs l n [b, c, d]) (hbl : b.length ≤ 1000000) {i : Nat} (hb : lifeO b = some i) (hcl : c.length ≤ 1000000) (hc : kindB c = false) : Ref T Rs l "BadRow" := fun k => by
  have e1 := hp k
  simp only [List.map_cons, List.map_nil] at e1
  have e2 := r_life_at b hbl i hb k
  have e3 := r_is_kind c hcl
  rw [hc] at e3
  simp [-ixD, f_p_row_of, b_p_row_of, e1, ix_l0, ix_l1, ix_l2, e2, e3]
theorem rf_row_value {T : List Str} {Rs : List Row} {l b c d : List Nat} {n : List Str} (hp : Parts T Rs l n [b, c, d]) (hbl : b.length ≤ 1000000) {i : Nat} (hb : lifeO b = some i) (hcl : c.length ≤ 1000000) (hc : kindB c = true) {C : Str}
    (hv : ∀ k : Int, f_p_value_at [.int k, .str (tx c), .str (tx d), nm T] = .exc C (some (.int k))) : Ref T Rs l C := fun k => by
  have e1 := hp k
  simp only [List.map_cons, List.map_nil] at e1
  have e2 := r_life_at b hbl i hb k
  have e3 := r_is_kind c hcl
  rw [hc] at e3
  have e4 := hv k
  simp [-ixD, f_p_row_of, b_p_row_of, e1, ix_l0, ix_l1, ix_l2, e2, e3, e4]
theorem rf_row_cut {T : List Str} {Rs : List Row} {l b c d : List Nat} {n : List Str} (hp : Parts T Rs l n [b, c, d]) (hbl : b.length ≤ 1000000) {i : Nat} (hb : lifeO b = some i) (hcl : c.length ≤ 1000000) (hc : kindB c = true) {v : Dat}
    (hv : ∀ k : Int, f_p_value_at [.int k, .str (tx c), .str (tx d), nm T] = .ok v) (hd : tx c = Str.ofString "down") (hcut : n = T ∨ n.getLast? = some (Str.ofString "*")) : Ref T Rs l "BadCut" := fun k => by
  have e1 := hp k
  simp only [List.map_cons, List.map_nil] at e1
  have e2 := r_life_at b hbl i hb k
  have e3 := r_is_kind c hcl
  rw [hc] at e3
  have e4 := hv k
  have c1 := cmp_nm n T
  have e7 : decide (tx c = Str.ofString "down") = true := decide_eq_true hd
  by_cases h1 : n = T
  · rw [decide_eq_true h1] at c1
    simp [-ixD, f_p_row_of, b_p_row_of, e1, ix_l0, ix_l1, ix_l2, e2, e3, e4, e7, c1]
  · have h2 := hcut.resolve_left h1
    have e6 : ixD (nm n) (.int (-1)) = .ok (.str (Str.ofString "*")) := ix_last (n.map PyData.str) _ (by rw [List.getLast?_map, h2]; rfl)
    rw [decide_eq_false h1] at c1
    simp [-ixD, f_p_row_of, b_p_row_of, e1, ix_l0, ix_l1, ix_l2, e2, e3, e4, e7, c1, e6]
theorem rf_row_clash {T : List Str} {Rs : List Row} {l b c d : List Nat} {R : Row} (hp : Parts T Rs l R.nm [b, c, d]) (hbl : b.length ≤ 1000000) {i : Nat} (hb : lifeO b = some i) (hi : R.life = i) (hcl : c.length ≤ 1000000) (hc : kindB c = true) (hk : R.kind = tx c)
    (hv : ∀ k : Int, f_p_value_at [.int k, .str (tx c), .str (tx d), nm T] = .ok (valD R.val)) (hcut : ¬ cutBad R T) (hnn : R.kind = Str.ofString "down" → R.nm ≠ []) (hcl2 : (Rs.any fun x => clashB x R) = true) : Ref T Rs l "Clash" := fun k => by
  have e1 := hp k
  simp only [List.map_cons, List.map_nil] at e1
  have e2 := r_life_at b hbl i hb k
  have e3 := r_is_kind c hcl
  rw [hc] at e3
  have e4 := hv k
  have e5 := r_clashes Rs R
  rw [hcl2] at e5
  have q : (PyData.tuple [nm R.nm, .int i, .str (tx c), valD R.val]) = rowD R := by
    rw [← hk, ← hi]
    rfl
  have c1 := cmp_nm R.nm T
  by_cases hd : R.kind = Str.ofString "down"
  · have h1 : R.nm ≠ T := fun h => hcut ⟨hd, .inl h⟩
    have h2 : R.nm.getLast? ≠ some (Str.ofString "*") := fun h => hcut ⟨hd, .inr h⟩
    obtain ⟨w, hw⟩ : ∃ w, R.nm.getLast? = some w := ⟨_, List.getLast?_eq_some_getLast (hnn hd)⟩
    have h3 : w ≠ Str.ofString "*" := fun h => h2 (by rw [hw, h])
    have e6 : ixD (nm R.nm) (.int (-1)) = .ok (.str w) := ix_last (R.nm.map PyData.str) (.str w) (by rw [List.getLast?_map, hw]; rfl)
    have e7 : decide (tx c = Str.ofString "down") = true := decide_eq_true (by rw [← hk]; exact hd)
    rw [decide_eq_false h1] at c1
    simp [-ixD, f_p_row_of, b_p_row_of, e1, ix_l0, ix_l1, ix_l2, e2, e3, e4, e7, c1, e6, h3, q, e5]
  · have e7 : decide (tx c = Str.ofString "down") = false := decide_eq_false (by rw [← hk]; exact hd)
    simp [-ixD, f_p_row_of, b_p_row_of, e1, ix_l0, ix_l1, ix_l2, e2, e3, e4, e7, q, e5]
def HRef (l : List Nat) (C : Str) : Prop := ∀ k : Int, f_p_head_of [.int k, .str (tx l)] = .exc C (some (.int k))
theorem rf_head_blank (l : List Nat) (hl : l.length ≤ 100000) (h : l.head? = some 32) : HRef l "BadRow" := fun k => by
  have e1 := r_words_of l hl
  have e2 := m1_starts 32 l
  rw [decide_eq_true h] at e2
  simp [f_p_head_of, b_p_head_of, e1, blank_s, e2]
theorem rf_head_many (l : List Nat) (hl : l.length ≤ 100000) (h : l.head? ≠ some 32) (hw : (wordsL l).length ≠ 3) : HRef l "BadRow" := fun k => by
  have e1 := r_words_of l hl
  have e2 := m1_starts 32 l
  rw [decide_eq_false h] at e2
  have e3 : biD .len [.list ((wordsL l).map fun w => PyData.str (tx w))] = .ok (.int (wordsL l).length) := by simp only [biD, List.length_map]
  have e4 : ((wordsL l).length : Int) ≠ 3 := by omega
  generalize ((wordsL l).map fun w => PyData.str (tx w)) = W at *
  generalize ((wordsL l).length : Int) = N at *
  simp [-biD, f_p_head_of, b_p_head_of, e1, blank_s, e2, e3, e4]
theorem rf_head_zone (l z a b : List Nat) (hl : l.length ≤ 100000) (h : l.head? ≠ some 32) (hw : wordsL l = [z, a, b]) (hz : z ≠ zoneW) : HRef l "BadRow" := fun k => by
  have e1 := r_words_of l hl
  rw [hw] at e1
  simp only [List.map_cons, List.map_nil] at e1
  have e2 := m1_starts 32 l
  rw [decide_eq_false h] at e2
  simp [f_p_head_of, b_p_head_of, e1, blank_s, e2, zone_s, L2.atI, L2.ixN, tx_eq, hz]
theorem rf_head_name (l a b : List Nat) (hl : l.length ≤ 100000) (h : l.head? ≠ some 32) (hw : wordsL l = [zoneW, a, b]) (ha : ∀ c ∈ a, c < 128) (hal : a.length ≤ 10000) (hr : readO (a.map lowN) [] false = none) : HRef l "BadName" := fun k => by
  have e1 := r_words_of l hl
  rw [hw] at e1
  simp only [List.map_cons, List.map_nil] at e1
  have e2 := m1_starts 32 l
  rw [decide_eq_false h] at e2
  have e6 : f_p_name_at [.int k, .str (tx a), .tuple [], .bool false] = _ := rf_name_at a ha hal [] (by simp) (by simp) false hr k
  simp [f_p_head_of, b_p_head_of, e1, blank_s, e2, zone_s, L2.atI, L2.ixN, e6]
theorem rf_head_end (l a b : List Nat) (hl : l.length ≤ 100000) (h : l.head? ≠ some 32) (hw : wordsL l = [zoneW, a, b]) (ha : ∀ c ∈ a, c < 128) (hal : a.length ≤ 10000) {n : List Str} (hr : readO (a.map lowN) [] false = some n) (h46 : a.getLast? ≠ some 46) : HRef l "BadName" := fun k => by
  have e1 := r_words_of l hl
  rw [hw] at e1
  simp only [List.map_cons, List.map_nil] at e1
  have e2 := m1_starts 32 l
  rw [decide_eq_false h] at e2
  have e5 := m1_ends 46 a
  rw [decide_eq_false h46] at e5
  have e6 : f_p_name_at [.int k, .str (tx a), .tuple [], .bool false] = _ := r_name_at a ha hal [] (by simp) (by simp) false n hr k
  simp [f_p_head_of, b_p_head_of, e1, blank_s, e2, zone_s, L2.atI, L2.ixN, e6, dot_s, e5]
theorem rf_head_life (l a b : List Nat) (hl : l.length ≤ 100000) (h : l.head? ≠ some 32) (hw : wordsL l = [zoneW, a, b]) (ha : ∀ c ∈ a, c < 128) (hal : a.length ≤ 10000) {n : List Str} (hr : readO (a.map lowN) [] false = some n) (h46 : a.getLast? = some 46) (hbl : b.length ≤ 1000000) (hb : lifeO b = none) : HRef l "BadRow" := fun k => by
  have e1 := r_words_of l hl
  rw [hw] at e1
  simp only [List.map_cons, List.map_nil] at e1
  have e2 := m1_starts 32 l
  rw [decide_eq_false h] at e2
  have e4 := rf_life_at b hbl hb k
  have e5 := m1_ends 46 a
  rw [decide_eq_true h46] at e5
  have e6 : f_p_name_at [.int k, .str (tx a), .tuple [], .bool false] = _ := r_name_at a ha hal [] (by simp) (by simp) false n hr k
  simp [f_p_head_of, b_p_head_of, e1, blank_s, e2, zone_s, L2.atI, L2.ixN, e6, dot_s, e5, e4]
/-- lines of which one is refused -/
inductive RBad (T : List Str) (C : Str) : Nat → List Row → List (List Nat) → Nat → Prop
  | skip {k m : Nat} {Rs : List Row} {l : List Nat} {ls : List (List Nat)} : passB l = true → RBad T C (k + 1) Rs ls m → RBad T C k Rs (l :: ls) m
  | row {k m : Nat} {Rs : List Row} {l : List Nat} {ls : List (List Nat)} {r : Row} : passB l = false → (∀ k : Int, f_p_row_of [.int k, .str (tx l), nm T, .list (Rs.map rowD)] = .ok (rowD r)) → RBad T C (k + 1) (Rs ++ [r]) ls m → RBad T C k Rs (l :: ls) m
  | bad {k : Nat} {Rs : List Row} {l : List Nat} {ls : List (List Nat)} : passB l = false → Ref T Rs l C → RBad T C k Rs (l :: ls) (k + 1)
inductive HBad (T : List Str) (n : Int) (C : Str) : Nat → List (List Nat) → Nat → Prop
  | skip {k m : Nat} {l : List Nat} {ls : List (List Nat)} : passB l = true → HBad T n C (k + 1) ls m → HBad T n C k (l :: ls) m
  | head {k m : Nat} {l : List Nat} {ls : List (List Nat)} : passB l = false → (∀ k : Int, f_p_head_of [.int k, .str (tx l)] = .ok (.tuple [nm T, .int n])) → RBad T C (k + 1) [] ls m → HBad T n C k (l :: ls) m
  | bad {k : Nat} {l : List Nat} {ls : List (List Nat)} : passB l = false → HRef l C → HBad T n C k (l :: ls) (k + 1)
theorem r_read_bad (t : List Nat) (ht : t.length ≤ 900000) (T : List Str) (n : Int) (C : Str) (m : Nat) (h : HBad T n C 0 (splitL 10 t) m) : f_p_read_zone [.str (tx t)] = .exc C (some (.int m)) := by
  have hB : ∀ w ∈ splitL 10 t, w.length ≤ 1000000 := fun w hw => by
    have := (splitL_mem 10 t w hw).1
    omega
  have hL := splitL_len 10 t
  have hw : exS Q_p_read_zone w0_p_read_zone [.fz (.str (tx t)), .fz .none, .ow [], .fz (.int 0), .un] = .exc C (some (.int m)) := by
    refine for_st (fun w => PyData.str (tx w)) (splitL 10 t) (fun b : Option (List Row) × Nat => match b with
        | (none, k) => [Sl.fz (.str (tx t)), .fz .none, .ow [], .fz (.int k), .un]
        | (some R, k) => [Sl.fz (.str (tx t)), .fz (.tuple [nm T, .int n]), .ow (R.map rowD), .fz (.int k), .un])
      (fun rest b => (∀ w ∈ rest, w.length ≤ 1000000) ∧ match b with
        | (none, k) => rest.length < 1000000 ∧ HBad T n C k rest m
        | (some R, k) => R.length + rest.length < 1000000 ∧ RBad T C k R rest m)
      (fun o => o = .exc C (some (.int m))) (none, 0) ?_ ⟨hB, by omega, h⟩ rfl ?_ ?_
    · have := m1_split 10 t (by omega)
      simp [line_s, this]
    · rintro ⟨o, k⟩ ⟨_, h⟩
      cases o with
      | none => cases h.2
      | some R => cases h.2
    · rintro l rest ⟨o, k⟩ ⟨hb, h⟩
      have hl1 := hb l (by simp)
      have hb' : ∀ w ∈ rest, w.length ≤ 1000000 := fun w hw => hb w (by simp [hw])
      have ep := r_passed l hl1
      have ek : (k : Int) + 1 = ((k + 1 : Nat) : Int) := by omega
      cases o with
      | none =>
        refine ⟨[.fz (.str (tx t)), .fz .none, .ow [], .fz (.int k), .fz (.str (tx l))], rfl, ?_⟩
        have e0 : cmpD .isN .none .none = .ok true := rfl
        obtain ⟨hlen, h⟩ := h
        simp only [List.length_cons] at hlen
        cases h with
        | skip hp h =>
          rw [hp] at ep
          exact .inl ⟨(none, k + 1), [.fz (.str (tx t)), .fz .none, .ow [], .fz (.int ((k + 1 : Nat) : Int)), .fz (.str (tx l))], .inr (by
            generalize ((k + 1 : Nat) : Int) = kk at *
            simp [v0_p_read_zone, ek, ep]), rfl, hb', by omega, h⟩
        | head hp hh h =>
          rw [hp] at ep
          have eh := hh ((k + 1 : Nat) : Int)
          exact .inl ⟨(some [], k + 1), [.fz (.str (tx t)), .fz (.tuple [nm T, .int n]), .ow [], .fz (.int ((k + 1 : Nat) : Int)), .fz (.str (tx l))], .inl (by
            generalize ((k + 1 : Nat) : Int) = kk at *
            simp [v0_p_read_zone, ek, ep, e0, eh]), rfl, hb', by simp; omega, h⟩
        | bad hp hh =>
          rw [hp] at ep
          have eh := hh ((k + 1 : Nat) : Int)
          refine .inr (.inr ⟨C, some (.int ((k + 1 : Nat) : Int)), ?_, rfl⟩)
          generalize ((k + 1 : Nat) : Int) = kk at *
          simp [v0_p_read_zone, ek, ep, e0, eh]
      | some R =>
        refine ⟨[.fz (.str (tx t)), .fz (.tuple [nm T, .int n]), .ow (R.map rowD), .fz (.int k), .fz (.str (tx l))], rfl, ?_⟩
        have e0 : cmpD .isN (.tuple [nm T, .int n]) .none = .ok false := rfl
        have ei : ixD (.tuple [nm T, .int n]) (.int 0) = .ok (nm T) := by simp [L2.atI, L2.ixN]
        obtain ⟨hlen, h⟩ := h
        simp only [List.length_cons] at hlen
        have hlR : R.length < 1000000 := by omega
        cases h with
        | skip hp h =>
          rw [hp] at ep
          exact .inl ⟨(some R, k + 1), [.fz (.str (tx t)), .fz (.tuple [nm T, .int n]), .ow (R.map rowD), .fz (.int ((k + 1 : Nat) : Int)), .fz (.str (tx l))], .inr (by
            generalize ((k + 1 : Nat) : Int) = kk at *
            simp [v0_p_read_zone, ek, ep]), rfl, hb', by omega, h⟩
        | @row _ _ _ _ _ r hp hh h =>
          rw [hp] at ep
          have eh := hh ((k + 1 : Nat) : Int)
          refine .inl ⟨(some (R ++ [r]), k + 1), [.fz (.str (tx t)), .fz (.tuple [nm T, .int n]), .ow ((R ++ [r]).map rowD), .fz (.int ((k + 1 : Nat) : Int)), .fz (.str (tx l))], .inl ?_, rfl, hb', by simp; omega, h⟩
          generalize ((k + 1 : Nat) : Int) = kk at *
          generalize (PyData.tuple [nm T, .int n]) = D at *
          simp [-ixD, v0_p_read_zone, ek, ep, e0, ei, eh, hlR]
        | bad hp hh =>
          rw [hp] at ep
          have eh := hh ((k + 1 : Nat) : Int)
          refine .inr (.inr ⟨C, some (.int ((k + 1 : Nat) : Int)), ?_, rfl⟩)
          generalize ((k + 1 : Nat) : Int) = kk at *
          generalize (PyData.tuple [nm T, .int n]) = D at *
          simp [-ixD, v0_p_read_zone, ek, ep, e0, ei, eh]
  simp [-ixD, f_p_read_zone, b_p_read_zone, hw]
theorem rbad_rows {T : List Str} {C : Str} (hT : T.all isWordS = true) (hl : T.length ≤ 9) : ∀ (Rs Q : List Row) (l : List Nat) (ls : List (List Nat)) (k : Nat), (∀ r ∈ Rs, LRow T r) → (∀ r ∈ Rs, ∀ x ∈ Q, clashB x r = false) → Rs.Pairwise (fun x r => clashB x r = false) → passB l = false → Ref T (Q ++ Rs) l C → RBad T C k Q (Rs.map lineL ++ l :: ls) (k + Rs.length + 1)
  | [], Q, l, ls, k, _, _, _, hp, hR => by
    rw [List.append_nil] at hR
    exact .bad hp hR
  | r :: Rs, Q, l, ls, k, h, hq, hp, hps, hR => by
    rw [List.pairwise_cons] at hp
    have z := rbad_rows hT hl Rs (Q ++ [r]) l ls (k + 1) (fun x hx => h x (by simp [hx])) (fun x hx y hy => by
        rcases List.mem_append.mp hy with hy | hy
        · exact hq x (by simp [hx]) y hy
        · rw [List.mem_singleton] at hy
          subst hy
          exact hp.1 x hx) hp.2 hps (by rw [List.append_assoc]; exact hR)
    have e : k + (r :: Rs).length + 1 = k + 1 + Rs.length + 1 := by simp only [List.length_cons]; omega
    rw [e, List.map_cons]
    refine .row (r := r) (line_pass (h r (by simp))) (fun k => line_reads hT hl Q r (h r (by simp)) ?_ k) z
    rw [List.any_eq_false]
    exact fun x hx => by rw [hq r (by simp) x hx]; decide
theorem lines_len (ls : List (List Nat)) (hn : ls.length ≤ 65) (h : ∀ l ∈ ls, l.length ≤ 12000) : (joinL 10 ls).length ≤ 900000 := by
  have := joinL_len 10 12000 ls h
  have h2 : ls.length * (12000 + 1) ≤ 65 * 12001 := Nat.mul_le_mul hn (by omega)
  omega
/-- a text whose lines are told, with a wrong one behind the rows -/
theorem read_bad {T : List Str} {C : Str} (hT : T.all isWordS = true) (hl : T.length ≤ 9) (n : Nat) (hn : n < 1000000000) (Rs : List Row) (g : ∀ r ∈ Rs, LRow T r) (hp : Rs.Pairwise (fun x r => clashB x r = false)) (l : List Nat) (hps : passB l = false) (hR : Ref T Rs l C) (ls : List (List Nat))
    (hlen : (headL T n :: (Rs.map lineL ++ l :: ls)).length ≤ 65) (h10 : ∀ w ∈ headL T n :: (Rs.map lineL ++ l :: ls), (∀ x ∈ w, x ≠ 10) ∧ w.length ≤ 12000) : f_p_read_zone [.str (tx (joinL 10 (headL T n :: (Rs.map lineL ++ l :: ls))))] = .exc C (some (.int ((Rs.length + 2 : Nat) : Int))) := by
  refine r_read_bad _ (lines_len _ hlen fun w hw => (h10 w hw).2) T n C _ ?_
  rw [splitL_join 10 _ (by simp) fun w hw => (h10 w hw).1]
  refine .head (head_pass T n) (head_reads hT hl n hn) ?_
  have := rbad_rows (C := C) hT hl Rs [] l ls 1 g (by simp) hp hps (by simpa using hR)
  have e : 0 + 1 + Rs.length + 1 = Rs.length + 2 := by omega
  have e2 : 1 + Rs.length + 1 = Rs.length + 2 := by omega
  rw [e2] at this
  exact this
theorem read_bad0 {C : Str} (l : List Nat) (hps : passB l = false) (hR : HRef l C) (ls : List (List Nat)) (hlen : (l :: ls).length ≤ 65) (h10 : ∀ w ∈ l :: ls, (∀ x ∈ w, x ≠ 10) ∧ w.length ≤ 12000) : f_p_read_zone [.str (tx (joinL 10 (l :: ls)))] = .exc C (some (.int ((1 : Nat) : Int))) := by
  refine r_read_bad _ (lines_len _ hlen fun w hw => (h10 w hw).2) [] 0 C _ ?_
  rw [splitL_join 10 _ (by simp) fun w hw => (h10 w hw).1]
  exact .bad hps hR
/-- how a refusal is told, and what is due -/
def ways : List (Str × Str) := [(Str.ofString "row", Str.ofString "BadRow"), (Str.ofString "name", Str.ofString "BadName"), (Str.ofString "outside", Str.ofString "Outside"), (Str.ofString "cut", Str.ofString "BadCut"), (Str.ofString "clash", Str.ofString "Clash")]
def dueD (m : Int) (way : Str) : Dat := .tuple (.int m :: ([Str.ofString "row", Str.ofString "name", Str.ofString "outside", Str.ofString "cut", Str.ofString "clash"].map fun w => PyData.bool (decide (w = way))) ++ [.bool true, .bool true, .bool false, .bool false, .bool false, .bool false])
theorem r_due (m : Int) (way : Str) : f_l_due [.int m, .str way] = .ok (dueD m way) := by
  have he : ∀ a : Sl, ev Q_l_due e0_l_due [.fz (.int m), .fz (.str way), .fz (.list [.str (Str.ofString "row"), .str (Str.ofString "name"), .str (Str.ofString "outside"), .str (Str.ofString "cut"), .str (Str.ofString "clash")]), .un] = .ok (.list ([Str.ofString "row", Str.ofString "name", Str.ofString "outside", Str.ofString "cut", Str.ofString "clash"].map fun w => PyData.bool (decide (w = way)))) := fun a => by
    refine lc_map PyData.str (fun w => PyData.bool (decide (w = way))) [Str.ofString "row", Str.ofString "name", Str.ofString "outside", Str.ofString "cut", Str.ofString "clash"] (by simp) (by simp) fun w _ => ⟨_, rfl, ?_⟩
    simp
  have he := he .un
  simp only [List.map_cons, List.map_nil] at he
  simp [f_l_due, b_l_due, he, bin_tup, dueD]
theorem eqvAll_cons (a b : Dat) (as bs : List Dat) : PyData.eqvAll (a :: as) (b :: bs) = (PyData.eqv a b && PyData.eqvAll as bs) := rfl
theorem eqv_due (m : Int) (way : Str) : PyData.eqv (dueD m way) (dueD m way) = true := by
  have hb : ∀ b : Bool, PyData.eqv (.bool b) (.bool b) = true := by intro b; cases b <;> rfl
  have hi : PyData.eqv (.int m) (.int m) = true := by rw [eqv_int]; simp
  have z : ∀ l : List Bool, PyData.eqvAll (l.map .bool) (l.map .bool) = true := fun l => by
    induction l with
    | nil => rfl
    | cons b l ih => rw [List.map_cons, eqvAll_cons, hb, ih]; rfl
  obtain ⟨l, hl⟩ : ∃ l : List Bool, dueD m way = .tuple (.int m :: l.map .bool) := ⟨[decide (Str.ofString "row" = way), decide (Str.ofString "name" = way), decide (Str.ofString "outside" = way), decide (Str.ofString "cut" = way), decide (Str.ofString "clash" = way), true, true, false, false, false, false], rfl⟩
  rw [hl]
  show PyData.eqvAll (.int m :: l.map .bool) (.int m :: l.map .bool) = true
  rw [eqvAll_cons, hi, z]
  rfl
theorem due_eq (m : Int) (way : Str) : cmpD .eq (dueD m way) (dueD m way) = .ok true := by
  have hd : shOk (dueD m way) = true := rfl
  rw [cmpEq _ _ hd hd, eqv_due]
theorem due_ne (m : Int) (way : Str) : cmpD .ne (dueD m way) (dueD m way) = .ok false := by
  have hd : shOk (dueD m way) = true := rfl
  rw [cmpNe _ _ hd hd, eqv_due]
  rfl
theorem r_refused (t : Dat) (m : Int) (way C : Str) (hw : (way, C) ∈ ways) (h : f_p_read_zone [t] = .exc C (some (.int m))) : f_l_refused [t] = .ok (dueD m way) := by
  simp only [ways, List.mem_cons, List.not_mem_nil, or_false, Prod.mk.injEq] at hw
  rcases hw with ⟨rfl, rfl⟩ | ⟨rfl, rfl⟩ | ⟨rfl, rfl⟩ | ⟨rfl, rfl⟩ | ⟨rfl, rfl⟩ <;> simp [f_l_refused, b_l_refused, h, dueD] <;> decide +kernel
theorem v_s : Str.ofString "v" = tx [118] := str_ext (by decide +kernel)
theorem fig_value : ∀ x ∈ figures, valueC x = true := by decide +kernel
theorem r_vnum (c : Int) : ∃ l : List Nat, biD .str [.int (c % 1000000000000000000000000000000)] = .ok (.str (tx l)) ∧ binD .add (.str (tx [118])) (.str (tx l)) = .ok (.str (tx (118 :: l))) ∧ valueB (118 :: l) = true := by
  have hl := num_len30 c
  have e := bi_str30 c
  have hf : ∀ x ∈ (numS (c % 1000000000000000000000000000000)).cps.toList, x ∈ figures := by
    obtain ⟨v, hv⟩ := Int.eq_ofNat_of_zero_le (a := c % 1000000000000000000000000000000) (by omega)
    rw [hv]
    exact fun x hx => of_decide_eq_true (List.all_eq_true.mp (numL_fig v) x hx)
  have h30 : (numS (c % 1000000000000000000000000000000)).length ≤ 30 := num_len _ 30 (by omega) (by decide) (by
    have : (1000000000000000000000000000000 : Nat) ≤ 10 ^ 30 := by decide +kernel
    omega)
  generalize numS (c % 1000000000000000000000000000000) = z at *
  rw [str_len] at h30
  have ez : z = tx z.cps.toList := (tx_of _).symm
  refine ⟨z.cps.toList, by rw [← ez]; exact e, cat_ok _ _ (by simp) (by omega), ?_⟩
  unfold valueB
  rw [Bool.and_eq_true, decide_eq_true_eq, List.all_eq_true]
  refine ⟨by simp only [List.length_cons]; omega, fun x hx => ?_⟩
  rcases List.mem_cons.mp hx with hx | hx
  · subst hx
    decide +kernel
  · exact fig_value x (hf x hx)
theorem r_row (W : List Str) (hW : W.length = 4) (gW : ∀ w ∈ W, GoodW w) (top : List Str) (ht : top.length ≤ 3) (hT : top.all isWordS = true) (c : Int) : ∃ R : Row, f_l_row [.list (W.map .str), nm top, .int c] = .ok (rowD R) ∧ LRow0 top R := by
  have p0 := r_part c 0 4 (by omega)
  have p5 := r_part c 5 5 (by omega)
  have p6 := r_part c 6 5 (by omega)
  have l6 := part_lo c 6 5 (by omega)
  have u6 := part_hi c 6 5 (by omega)
  have p11 := r_part c 11 4 (by omega)
  obtain ⟨N, b0, b1, b2⟩ := r_below W hW c 1 (part c 0 4) (part_lo _ _ _ (by omega)) (by have := part_hi c 0 4 (by omega); omega)
  have hN : N.length ≤ 4 := by have := part_hi c 0 4 (by omega); omega
  obtain ⟨M, d0, d1, d2⟩ := r_below W hW c 7 (part c 11 4) (part_lo _ _ _ (by omega)) (by have := part_hi c 11 4 (by omega); omega)
  have hM : M.length ≤ 4 := by have := part_hi c 11 4 (by omega); omega
  have e1 : binD .add (nm top) (nm N) = .ok (nm (top ++ N)) := by
    simp only [nm]
    rw [bin_tup _ _ (by simp; omega), List.map_append]
  have hA : (top ++ N).all isWordS = true := by rw [List.all_append, hT, all_of gW b2]; rfl
  have hl : (top ++ N).length ≤ 7 := by simp; omega
  have hp : (top ++ N).take top.length = top := take_app top N
  have hp2 : (top ++ N ++ [Str.ofString "*"]).take top.length = top := by rw [List.append_assoc]; exact take_app top _
  generalize top ++ N = A at *
  have e2 : binD .add (nm A) (.tuple [.str (Str.ofString "*")]) = .ok (nm (A ++ [Str.ofString "*"])) := by
    simp only [nm]
    rw [bin_tup _ _ (by simp; omega)]
    simp
  obtain ⟨k, hk, hq⟩ := at_any PyData.str [Str.ofString "mark", Str.ofString "door", Str.ofString "else", Str.ofString "down", Str.ofString "markers"] (part c 6 5) l6 (by simpa using u6)
  simp only [List.map_cons, List.map_nil] at hq
  have hkb : kindB k.cps.toList = true := by
    have : ∀ k ∈ [Str.ofString "mark", Str.ofString "door", Str.ofString "else", Str.ofString "down", Str.ofString "markers"], kindB k.cps.toList = true := by decide +kernel
    exact this k hk
  have e3 : binD .mul (.int c) (.int 48271) = .ok (.int (c * 48271)) := bin_mul _ _ (by decide)
  have e5 : binD .mod (.int (c * 48271)) (.int 999999937) = .ok (.int (c * 48271 % 999999937)) := bin_mod _ _ (by omega)
  have e6 : binD .mod (.int c) (.int 1000000000000000000000000000000) = .ok (.int (c % 1000000000000000000000000000000)) := bin_mod _ _ (by omega)
  obtain ⟨VL, e7, e8, hvb⟩ := r_vnum c
  have p17 := r_part c 17 6 (by omega)
  have l17 := part_lo c 17 6 (by omega)
  have u17 := part_hi c 17 6 (by omega)
  have e4 : binD .div (.int (part c 17 6)) (.int 5) = .ok (.int (part c 17 6 / 5)) := bin_div _ _ (by omega) (by omega)
  have e9 : binD .mod (.int c) (.int 100) = .ok (.int (c % 100)) := bin_mod _ _ (by omega)
  obtain ⟨z1, hi, a6⟩ := at_any PyData.int [c * 48271 % 999999937, 999999999 - c % 100] (part c 17 6 / 5) (by omega) (by simp; omega)
  simp only [List.map_cons, List.map_nil] at a6
  have hlife : ∃ n : Nat, z1 = n ∧ n < 1000000000 := by
    simp only [List.mem_cons, List.not_mem_nil, or_false] at hi
    rcases hi with rfl | rfl
    · exact ⟨(c * 48271 % 999999937).toNat, by omega, by omega⟩
    · exact ⟨(999999999 - c % 100).toNat, by omega, by omega⟩
  generalize c * 48271 % 999999937 = z2 at *
  generalize c * 48271 = z0 at *
  have si := kind_in2 k
  obtain ⟨X, hX, hXp, hgo⟩ : ∃ X : List Str, NmOk X ∧ X.take top.length = top ∧ ∀ rest, exSs Q_l_row (.cons (.set 3 (.bin .add (.var 1) (.cal 20 (.cons (.var 0) (.cons (.var 2) (.cons (.int 1) (.cons (.cal 18 (.cons (.var 2) (.cons (.int 0) (.cons (.int 4) .nil)))) .nil))))))) <|
  .cons (.ifs (.cmp .eq (.cal 18 (.cons (.var 2) (.cons (.int 5) (.cons (.int 5) .nil)))) (.int 1))
    (.cons (.set 3 (.bin .add (.var 3) (.tup (.cons (.str "*") .nil)))) <|
    .nil)
    (.nil)) <| rest) [.fz (.list (W.map .str)), .fz (nm top), .fz (.int c), .un, .un, .un] = exSs Q_l_row rest [.fz (.list (W.map .str)), .fz (nm top), .fz (.int c), .fz (nm X), .un, .un] := by
    by_cases h5 : part c 5 5 = 1
    · exact ⟨A ++ [Str.ofString "*"], ⟨A, hA, by omega, .inr rfl⟩, hp2, fun rest => by simp [p0, b0, e1, p5, h5, e2]⟩
    · exact ⟨A, ⟨A, hA, by omega, .inl rfl⟩, hp, fun rest => by simp [p0, b0, e1, p5, h5]⟩
  cases hpt : point k with
  | true =>
    rw [hpt] at si
    refine ⟨⟨X, z1, k, .n M⟩, ?_, hX, hXp, hlife, hkb, fun _ => ⟨M, rfl, all_of gW d2, by omega⟩, fun h => by rw [hpt] at h; cases h⟩
    simp only [f_l_row, b_l_row, runF_eq]
    simp [-exSs_cons]
    rw [hgo]
    simp [-ixD, hq, e3, e4, e5, e9, a6, p17, p6, si, p11, d0, rowD, valD]
  | false =>
    rw [hpt] at si
    refine ⟨⟨X, z1, k, .s (tx (118 :: VL))⟩, ?_, hX, hXp, hlife, hkb, (fun h => by rw [hpt] at h; cases h), fun _ => ⟨_, rfl, hvb⟩⟩
    simp only [f_l_row, b_l_row, runF_eq]
    simp [-exSs_cons]
    rw [hgo]
    generalize c % 1000000000000000000000000000000 = zz at *
    generalize 118 :: VL = VV at *
    simp [-ixD, -biD, hq, e3, e4, e5, e6, e7, e8, e9, a6, p17, v_s, pow_30, p6, si, rowD, valD]
theorem r_fits (Rs : List Row) (R : Row) (top : List Str) (h : R.nm ≠ top → R.nm ≠ []) : ∃ b : Bool, f_l_fits [.list (Rs.map rowD), rowD R, nm top] = .ok (.bool b) ∧ (b = true → ¬ cutBad R top ∧ ∀ x ∈ Rs, clashB x R = false) := by
  have hw : exS Q_l_fits w0_l_fits [.ln (Rs.map rowD), .fz (rowD R), .fz (nm top), .un] = cond (Rs.any fun x => clashB x R) (.ret (.bool false)) (.nx [.ln (Rs.map rowD), .fz (rowD R), .fz (nm top), .un]) := by
    refine for_any rowD Rs (fun x => clashB x R) (.bool false) [.ln (Rs.map rowD), .fz (rowD R), .fz (nm top), .un] ?_ rfl fun x _ => ⟨[.ln (Rs.map rowD), .fz (rowD R), .fz (nm top), .fz (rowD x)], rfl, ?_⟩
    · simp
    · have c1 := cmp_nm x.nm R.nm
      have c2 : cmpD .eq (valD x.val) (valD R.val) = .ok (decide (x.val = R.val)) := encV.eq (by decide) _ _
      show if (decide (x.nm = R.nm) && (decide (x.kind = Str.ofString "else") || decide (R.kind = Str.ofString "else") || (decide (x.kind = R.kind) && (decide (R.kind = Str.ofString "down") || decide (x.val = R.val))))) = true then _ else _
      generalize decide (x.nm = R.nm) = b1 at *
      generalize decide (x.val = R.val) = b2 at *
      generalize h3 : decide (x.kind = Str.ofString "else") = b3
      generalize h4 : decide (R.kind = Str.ofString "else") = b4
      generalize h5 : decide (x.kind = R.kind) = b5
      generalize h6 : decide (R.kind = Str.ofString "down") = b6
      have go : exSs Q_l_fits v0_l_fits [.ln (Rs.map rowD), .fz (rowD R), .fz (nm top), .fz (rowD x)] = if (b1 && (b3 || b4 || (b5 && (b6 || b2)))) = true then .ret (.bool false) else .nx [.ln (Rs.map rowD), .fz (rowD R), .fz (nm top), .fz (rowD x)] := by
        cases b1 <;> cases b2 <;> cases b3 <;> cases b4 <;> cases b5 <;> cases b6 <;>
          simp [-ixD, v0_l_fits, row_0, row_2, row_3, c1, c2, h3, h4, h5, h6]
      split
      · rename_i hc
        rw [go, if_pos hc]
      · rename_i hc
        exact ⟨_, .inl (by rw [go, if_neg hc]), rfl⟩
  have c0 := cmp_nm R.nm top
  have fin : ∃ b : Bool, runO false (seqO (exS Q_l_fits w0_l_fits [.ln (Rs.map rowD), .fz (rowD R), .fz (nm top), .un]) Q_l_fits (.cons (.ret (.bl true)) .nil)) = .ok (.bool b) ∧ (b = true → ∀ x ∈ Rs, clashB x R = false) := by
    cases q : Rs.any (fun x => clashB x R) with
    | true => exact ⟨false, by rw [hw, q]; simp, fun h => by cases h⟩
    | false =>
      refine ⟨true, by rw [hw, q]; simp, fun _ x hx => ?_⟩
      have := List.any_eq_false.mp q x hx
      simpa using this
  obtain ⟨b, f1, f2⟩ := fin
  by_cases h1 : R.kind = Str.ofString "down"
  · by_cases h2 : R.nm = top
    · rw [decide_eq_true h2] at c0
      exact ⟨false, by simp [-ixD, f_l_fits, b_l_fits, row_0, row_2, c0, h1], fun h => by cases h⟩
    · have hne := h h2
      obtain ⟨w, hw2⟩ : ∃ w, R.nm.getLast? = some w := ⟨_, List.getLast?_eq_some_getLast hne⟩
      have hq : ixD (nm R.nm) (.int (-1)) = .ok (.str w) := ix_last (R.nm.map PyData.str) (.str w) (by rw [List.getLast?_map, hw2]; rfl)
      rw [decide_eq_false h2] at c0
      by_cases h3 : w = Str.ofString "*"
      · exact ⟨false, by simp [-ixD, f_l_fits, b_l_fits, row_0, row_2, c0, h1, hq, h3], fun h => by cases h⟩
      · refine ⟨b, by simpa [-ixD, f_l_fits, b_l_fits, row_0, row_2, c0, h1, hq, h3] using f1, fun hb => ⟨fun hc => ?_, f2 hb⟩⟩
        rcases hc.2 with hc | hc
        · exact h2 hc
        · rw [hw2] at hc
          exact h3 (by simpa using hc)
  · exact ⟨b, by simpa [-ixD, f_l_fits, b_l_fits, row_0, row_2, c0, h1] using f1, fun hb => ⟨fun hc => h1 hc.1, f2 hb⟩⟩
theorem r_rows (W : List Str) (hW : W.length = 4) (gW : ∀ w ∈ W, GoodW w) (top : List Str) (ht : top.length ≤ 3) (hT : top.all isWordS = true) (cs : List Int) (hc : cs.length ≤ 60) :
    ∃ Rs : List Row, f_l_rows [.list (W.map .str), nm top, .list (cs.map .int)] = .ok (.list (Rs.map rowD)) ∧ Rs.length ≤ 60 ∧ (∀ R ∈ Rs, LRow top R) ∧ Rs.Pairwise (fun x r => clashB x r = false) := by
  have hw : ∃ Rs : List Row, (Rs.length ≤ 60 ∧ (∀ R ∈ Rs, LRow top R) ∧ Rs.Pairwise (fun x r => clashB x r = false)) ∧ exS Q_l_rows w0_l_rows [.fz (.list (W.map .str)), .fz (nm top), .fz (.list (cs.map .int)), .ow [], .un, .un] = .nx [.fz (.list (W.map .str)), .fz (nm top), .fz (.list (cs.map .int)), .ow (Rs.map rowD), .un, .un] := by
    refine for_st PyData.int cs (fun Rs : List Row => [Sl.fz (.list (W.map .str)), .fz (nm top), .fz (.list (cs.map .int)), .ow (Rs.map rowD), .un, .un]) (fun r Rs => Rs.length + r.length ≤ 60 ∧ (∀ R ∈ Rs, LRow top R) ∧ Rs.Pairwise (fun x r => clashB x r = false))
      (fun o => ∃ Rs : List Row, (Rs.length ≤ 60 ∧ (∀ R ∈ Rs, LRow top R) ∧ Rs.Pairwise (fun x r => clashB x r = false)) ∧ o = .nx [.fz (.list (W.map .str)), .fz (nm top), .fz (.list (cs.map .int)), .ow (Rs.map rowD), .un, .un]) [] (by simp) ⟨by simpa using hc, by simp, List.Pairwise.nil⟩ rfl (fun Rs h => ⟨Rs, ⟨by simpa using h.1, h.2⟩, rfl⟩) fun c r Rs h => ⟨_, rfl, .inl ?_⟩
    obtain ⟨R, a1, r2⟩ := r_row W hW gW top ht hT c
    obtain ⟨b, hb, hb2⟩ := r_fits Rs R top (fun hne he => by
      have := r2.pre
      rw [he] at this
      simp at this
      rw [he] at hne
      exact hne this.symm)
    have hl : Rs.length < 1000000 := by have := h.1; omega
    cases b with
    | true =>
      obtain ⟨g1, g2⟩ := hb2 rfl
      refine ⟨Rs ++ [R], [.fz (.list (W.map .str)), .fz (nm top), .fz (.list (cs.map .int)), .ow ((Rs ++ [R]).map rowD), .fz (.int c), .fz (rowD R)], .inl ?_, rfl, by have := h.1; simp at this ⊢; omega, fun x hx => ?_, ?_⟩
      · simp [v0_l_rows, a1, hb, hl]
      · rcases List.mem_append.mp hx with hx | hx
        · exact h.2.1 x hx
        · rw [List.mem_singleton] at hx
          subst hx
          exact ⟨r2.nm, r2.pre, r2.life, r2.knd, r2.vp, r2.vs, g1⟩
      · rw [List.pairwise_append]
        refine ⟨h.2.2, by simp, fun a ha b hb3 => ?_⟩
        rw [List.mem_singleton] at hb3
        subst hb3
        exact g2 a ha
    | false =>
      refine ⟨Rs, [.fz (.list (W.map .str)), .fz (nm top), .fz (.list (cs.map .int)), .ow (Rs.map rowD), .fz (.int c), .fz (rowD R)], .inl ?_, rfl, by have := h.1; simp at this ⊢; omega, h.2⟩
      simp [v0_l_rows, a1, hb]
  obtain ⟨Rs, h1, h3⟩ := hw
  exact ⟨Rs, by simp [f_l_rows, b_l_rows, h3], h1.1, h1.2⟩
theorem r_line {T : List Str} {r : Row} (h : LRow T r) : f_l_line [rowD r] = .ok (.str (tx (lineL r))) := by
  have s1 := r_name_text r.nm (good_nm h.nm)
  rw [shown_sh] at s1
  obtain ⟨m, e1, e2⟩ := h.life
  have en : lifeN r = m := by unfold lifeN; omega
  have s2 := bi_num m e2
  rw [← e1, ← en] at s2
  have c := kind_in2 r.kind
  have lm := line_made h
  rcases val_of h with ⟨hp, A, a1, a2, a3⟩ | ⟨hp, a1⟩
  · rw [hp] at c
    have s3 := r_name_text A (good_nm a2)
    rw [shown_sh, ← a3] at s3
    have ev : valD r.val = nm A := by rw [a1]; rfl
    generalize lineL r = LL at *
    simp [-ixD, -biD, f_l_line, b_l_line, row_0, row_1, row_2, row_3, c, ev, s1, s2, s3, blank_s, binR_bind, lm]
  · rw [hp] at c
    generalize lineL r = LL at *
    simp [-ixD, -biD, f_l_line, b_l_line, row_0, row_1, row_2, row_3, c, a1, s1, s2, blank_s, binR_bind, lm]
theorem zone_eq (T : List Str) (n : Int) (Rs : List Row) : cmpD .eq (zoneD T n Rs) (zoneD T n Rs) = .ok true := by
  have h1 : shOk (zoneD T n Rs) = true := by
    have a1 := encN.ndc T
    have a2 := encR.lst.ndc Rs
    have d1 := encN.dep T
    have d2 := encR.lst.dep Rs
    unfold shOk
    rw [Bool.and_eq_true, decide_eq_true_eq]
    refine ⟨?_, ?_⟩
    · show (ndc (nm T) && (true && (ndc (.list (Rs.map rowD)) && true))) = true
      rw [show ndc (nm T) = true from a1, a2]
      rfl
    · have : PyData.depth (zoneD T n Rs) ≤ 10 + 1 := depth_tup _ fun d hd => by
        simp only [List.mem_cons, List.not_mem_nil, or_false] at hd
        rcases hd with rfl | rfl | rfl
        · exact Nat.le_trans d1 (by decide)
        · simp [PyData.depth]
        · exact Nat.le_trans d2 (by decide)
      omega
  rw [cmpEq _ _ h1 h1]
  have b1 := encN.eqv T T
  have b2 := encR.lst.eqv Rs Rs
  have e : PyData.eqv (zoneD T n Rs) (zoneD T n Rs) = (PyData.eqv (nm T) (nm T) && (PyData.eqv (.int n) (.int n) && (PyData.eqv (.list (Rs.map rowD)) (.list (Rs.map rowD)) && true))) := rfl
  rw [e, show PyData.eqv (nm T) (nm T) = _ from b1, eqv_int, b2]
  simp
theorem r_is_zone (T : List Str) (n : Nat) (Rs : List Row) (hl : Rs.length ≤ 60) : f_l_is_zone [zoneD T n Rs, nm T, .int n, .list (Rs.map rowD)] = .ok (.bool true) := by
  have e1 : isiD .tuple (zoneD T n Rs) = .ok true := rfl
  have e2 : biD .len [zoneD T n Rs] = .ok (.int 3) := rfl
  have e3 := zone_eq T n Rs
  have q : (PyData.tuple [nm T, .int n, .list (Rs.map rowD)]) = zoneD T n Rs := rfl
  generalize hZ : zoneD T n Rs = Z at *
  simp [-ixD, -isiD, -biD, f_l_is_zone, b_l_is_zone, e1, e2, q, e3]
def k_w5 : List Nat := [53]
def k_w05 : List Nat := [48, 53]
def k_mk : List Nat := [109, 97, 114, 107]
def k_el : List Nat := [101, 108, 115, 101]
def k_dn : List Nat := [100, 111, 119, 110]
def k_wx : List Nat := [120]
def k_wy : List Nat := [121]
def k_wz : List Nat := [122]
def k_dot : List Nat := [46]
def k_wa : List Nat := [97, 46]
def k_zones : List Nat := [122, 111, 110, 101, 115]
def k_Zone : List Nat := [90, 111, 110, 101]
def k_wat : List Nat := [64]
def k_wsa : List Nat := [42, 46]
def k_a1 : List Nat := [97]
def k_wab : List Nat := [97, 46, 98]
def k_ap : List Nat := [59]
def k_arem : List Nat := [114, 101, 109, 97, 114, 107]
def k_wst : List Nat := [42, 46, 97, 46]
def k_x41 : List Nat := List.replicate 41 120
def badLives : List (List Nat) := [[48, 53], [48, 48], [49, 48, 48, 48, 48, 48, 48, 48, 48, 48], [120], [45, 53], [53, 45], [43, 53], [53, 95, 48]]
def badKinds : List (List Nat) := [[77, 97, 114, 107], [109, 97, 114, 55], [97, 98, 99, 100, 101, 102, 103, 104, 105], [109, 45, 107], [109, 97, 114, 107, 46], [55], [68, 111, 119, 110]]
theorem life0_s : Str.ofString "05" = tx [48, 53] := str_ext (by decide +kernel)
theorem life1_s : Str.ofString "00" = tx [48, 48] := str_ext (by decide +kernel)
theorem life2_s : Str.ofString "1000000000" = tx [49, 48, 48, 48, 48, 48, 48, 48, 48, 48] := str_ext (by decide +kernel)
theorem life3_s : Str.ofString "x" = tx [120] := str_ext (by decide +kernel)
theorem life4_s : Str.ofString "-5" = tx [45, 53] := str_ext (by decide +kernel)
theorem life5_s : Str.ofString "5-" = tx [53, 45] := str_ext (by decide +kernel)
theorem life6_s : Str.ofString "+5" = tx [43, 53] := str_ext (by decide +kernel)
theorem life7_s : Str.ofString "5_0" = tx [53, 95, 48] := str_ext (by decide +kernel)
theorem kind0_s : Str.ofString "Mark" = tx [77, 97, 114, 107] := str_ext (by decide +kernel)
theorem kind1_s : Str.ofString "mar7" = tx [109, 97, 114, 55] := str_ext (by decide +kernel)
theorem kind2_s : Str.ofString "abcdefghi" = tx [97, 98, 99, 100, 101, 102, 103, 104, 105] := str_ext (by decide +kernel)
theorem kind3_s : Str.ofString "m-k" = tx [109, 45, 107] := str_ext (by decide +kernel)
theorem kind4_s : Str.ofString "mark." = tx [109, 97, 114, 107, 46] := str_ext (by decide +kernel)
theorem kind5_s : Str.ofString "7" = tx [55] := str_ext (by decide +kernel)
theorem kind6_s : Str.ofString "Down" = tx [68, 111, 119, 110] := str_ext (by decide +kernel)
theorem x41_s : binD .mul (.str "x") (.int 41) = .ok (.str (tx k_x41)) := by
  simp only [binD]
  rw [if_pos (by decide +kernel)]
  exact congrArg (fun s => Res.ok (PyData.str s)) (str_ext (by decide +kernel))
def a13 : List Nat := List.replicate 13 97
theorem a13_s : binD .mul (.str "a") (.int 13) = .ok (.str (tx a13)) := by
  simp only [binD]
  rw [if_pos (by decide +kernel)]
  exact congrArg (fun s => Res.ok (PyData.str s)) (str_ext (by decide +kernel))
def bad8 : List Nat := [97, 46, 97, 46, 97, 46, 97, 46, 97, 46, 97, 46, 97, 46, 97, 46, 97, 46, 97, 46, 97, 46]
theorem bad8_s : binD .mul (.str "a.") (.int 11) = .ok (.str (tx bad8)) := by
  simp only [binD]
  rw [if_pos (by decide +kernel)]
  exact congrArg (fun s => Res.ok (PyData.str s)) (str_ext (by decide +kernel))
def q__5 : List Nat := [32, 53]
theorem q__5_s : Str.ofString " 5" = tx q__5 := str_ext (by decide +kernel)
def q__5_mark : List Nat := [32, 53, 32, 109, 97, 114, 107]
theorem q__5_mark_s : Str.ofString " 5 mark" = tx q__5_mark := str_ext (by decide +kernel)
def q__5_mark_x : List Nat := [32, 53, 32, 109, 97, 114, 107, 32, 120]
theorem q__5_mark_x_s : Str.ofString " 5 mark x" = tx q__5_mark_x := str_ext (by decide +kernel)
def q__5_mark_x_y : List Nat := [32, 53, 32, 109, 97, 114, 107, 32, 120, 32, 121]
theorem q__5_mark_x_y_s : Str.ofString " 5 mark x y" = tx q__5_mark_x_y := str_ext (by decide +kernel)
def q__5_mark_x_y_z : List Nat := [32, 53, 32, 109, 97, 114, 107, 32, 120, 32, 121, 32, 122]
theorem q__5_mark_x_y_z_s : Str.ofString " 5 mark x y z" = tx q__5_mark_x_y_z := str_ext (by decide +kernel)
def q__5_mark__x_y : List Nat := [32, 53, 32, 109, 97, 114, 107, 32, 32, 120, 32, 121]
theorem q__5_mark__x_y_s : Str.ofString " 5 mark  x y" = tx q__5_mark__x_y := str_ext (by decide +kernel)
def q_zone_p_5 : List Nat := [122, 111, 110, 101, 32, 46, 32, 53]
theorem q_zone_p_5_s : Str.ofString "zone . 5" = tx q_zone_p_5 := str_ext (by decide +kernel)
def q__mark_x : List Nat := [32, 109, 97, 114, 107, 32, 120]
theorem q__mark_x_s : Str.ofString " mark x" = tx q__mark_x := str_ext (by decide +kernel)
def q___ : List Nat := [32, 32]
theorem q____s : Str.ofString "  " = tx q___ := str_ext (by decide +kernel)
def q__5_ : List Nat := [32, 53, 32]
theorem q__5__s : Str.ofString " 5 " = tx q__5_ := str_ext (by decide +kernel)
def q__x : List Nat := [32, 120]
theorem q__x_s : Str.ofString " x" = tx q__x := str_ext (by decide +kernel)
def q__5_mark_ : List Nat := [32, 53, 32, 109, 97, 114, 107, 32]
theorem q__5_mark__s : Str.ofString " 5 mark " = tx q__5_mark_ := str_ext (by decide +kernel)
def q__5_down_x_y : List Nat := [32, 53, 32, 100, 111, 119, 110, 32, 120, 32, 121]
theorem q__5_down_x_y_s : Str.ofString " 5 down x y" = tx q__5_down_x_y := str_ext (by decide +kernel)
def q__5_else : List Nat := [32, 53, 32, 101, 108, 115, 101]
theorem q__5_else_s : Str.ofString " 5 else" = tx q__5_else := str_ext (by decide +kernel)
def q___sc_a_remark : List Nat := [32, 32, 59, 32, 97, 32, 114, 101, 109, 97, 114, 107]
theorem q___sc_a_remark_s : Str.ofString "  ; a remark" = tx q___sc_a_remark := str_ext (by decide +kernel)
def q__sc : List Nat := [32, 59]
theorem q__sc_s : Str.ofString " ;" = tx q__sc := str_ext (by decide +kernel)
def q__sc_x_y : List Nat := [32, 59, 32, 120, 32, 121]
theorem q__sc_x_y_s : Str.ofString " ; x y" = tx q__sc_x_y := str_ext (by decide +kernel)
def q__5_else_ap : List Nat := [32, 53, 32, 101, 108, 115, 101, 32, 97, 46]
theorem q__5_else_ap_s : Str.ofString " 5 else a." = tx q__5_else_ap := str_ext (by decide +kernel)
def q__5_down_ : List Nat := [32, 53, 32, 100, 111, 119, 110, 32]
theorem q__5_down__s : Str.ofString " 5 down " = tx q__5_down_ := str_ext (by decide +kernel)
def q_else_ : List Nat := [101, 108, 115, 101, 32]
theorem q_else__s : Str.ofString "else " = tx q_else_ := str_ext (by decide +kernel)
def q_down_ : List Nat := [100, 111, 119, 110, 32]
theorem q_down__s : Str.ofString "down " = tx q_down_ := str_ext (by decide +kernel)
def q_zone : List Nat := [122, 111, 110, 101]
theorem q_zone_s : Str.ofString "zone" = tx q_zone := str_ext (by decide +kernel)
def q_zones_ : List Nat := [122, 111, 110, 101, 115, 32]
theorem q_zones__s : Str.ofString "zones " = tx q_zones_ := str_ext (by decide +kernel)
def q_Zone_ : List Nat := [90, 111, 110, 101, 32]
theorem q_Zone__s : Str.ofString "Zone " = tx q_Zone_ := str_ext (by decide +kernel)
def q__zone_ : List Nat := [32, 122, 111, 110, 101, 32]
theorem q__zone__s : Str.ofString " zone " = tx q__zone_ := str_ext (by decide +kernel)
def q__5_5 : List Nat := [32, 53, 32, 53]
theorem q__5_5_s : Str.ofString " 5 5" = tx q__5_5 := str_ext (by decide +kernel)
def q__05 : List Nat := [32, 48, 53]
theorem q__05_s : Str.ofString " 05" = tx q__05 := str_ext (by decide +kernel)
def q_zone_at_5 : List Nat := [122, 111, 110, 101, 32, 64, 32, 53]
theorem q_zone_at_5_s : Str.ofString "zone @ 5" = tx q_zone_at_5 := str_ext (by decide +kernel)
def q_zone_a_5 : List Nat := [122, 111, 110, 101, 32, 97, 32, 53]
theorem q_zone_a_5_s : Str.ofString "zone a 5" = tx q_zone_a_5 := str_ext (by decide +kernel)
def q_zone_stp_5 : List Nat := [122, 111, 110, 101, 32, 42, 46, 32, 53]
theorem q_zone_stp_5_s : Str.ofString "zone *. 5" = tx q_zone_stp_5 := str_ext (by decide +kernel)
def q_zone_apb_5 : List Nat := [122, 111, 110, 101, 32, 97, 46, 98, 32, 53]
theorem q_zone_apb_5_s : Str.ofString "zone a.b 5" = tx q_zone_apb_5 := str_ext (by decide +kernel)
def q_sc : List Nat := [59]
theorem q_sc_s : Str.ofString ";" = tx q_sc := str_ext (by decide +kernel)
def q_sc_zone_p_5 : List Nat := [59, 32, 122, 111, 110, 101, 32, 46, 32, 53]
theorem q_sc_zone_p_5_s : Str.ofString "; zone . 5" = tx q_sc_zone_p_5 := str_ext (by decide +kernel)
def q_scx_5_mark_x : List Nat := [59, 120, 32, 53, 32, 109, 97, 114, 107, 32, 120]
theorem q_scx_5_mark_x_s : Str.ofString ";x 5 mark x" = tx q_scx_5_mark_x := str_ext (by decide +kernel)
def q_apstp : List Nat := [97, 46, 42, 46]
theorem q_apstp_s : Str.ofString "a.*." = tx q_apstp := str_ext (by decide +kernel)
def q_stap : List Nat := [42, 97, 46]
theorem q_stap_s : Str.ofString "*a." = tx q_stap := str_ext (by decide +kernel)
def q_stpstp : List Nat := [42, 46, 42, 46]
theorem q_stpstp_s : Str.ofString "*.*." = tx q_stpstp := str_ext (by decide +kernel)
def q_stpap : List Nat := [42, 46, 97, 46]
theorem q_stpap_s : Str.ofString "*.a." = tx q_stpap := str_ext (by decide +kernel)
def q_ap : List Nat := [97, 46]
theorem q_ap_s : Str.ofString "a." = tx q_ap := str_ext (by decide +kernel)
/-- lines as words with one blank between -/
def GWd (w : List Nat) : Prop := w ≠ [] ∧ (∀ x ∈ w, x ≠ 32 ∧ x ≠ 10) ∧ w.length ≤ 2000
instance (w : List Nat) : Decidable (GWd w) := by unfold GWd; infer_instance
structure LOk (l : List Nat) (bl : Bool) (ws : List (List Nat)) : Prop where
  wd : wordsL l = ws
  n10 : ∀ x ∈ l, x ≠ 10
  len : l.length ≤ 12000
  pas : passB l = false
  b : (l.head? = some 32) ↔ bl = true
theorem lok_f (ws : List (List Nat)) (hn : ws ≠ []) (h5 : ws.length ≤ 5) (hw : ∀ w ∈ ws, GWd w) (h59 : ∀ w, ws.head? = some w → w.head? ≠ some 59) : LOk (joinL 32 ws) false ws := by
  have hl := joinL_len 32 2000 ws fun w h => (hw w h).2.2
  have h2 : ws.length * (2000 + 1) ≤ 5 * 2001 := Nat.mul_le_mul h5 (by omega)
  have h0 : ∃ x, (joinL 32 ws).head? = some x ∧ x ≠ 32 ∧ x ≠ 59 := by
    cases ws with
    | nil => exact absurd rfl hn
    | cons w r =>
      have g := hw w (by simp)
      rw [head_of_join 32 w r g.1]
      cases w with
      | nil => exact absurd rfl g.1
      | cons x w =>
        refine ⟨x, rfl, (g.2.1 x (by simp)).1, fun e => h59 (x :: w) rfl (by rw [e]; rfl)⟩
  obtain ⟨x, e, x1, x2⟩ := h0
  refine ⟨words_join ws hn fun w h => ⟨(hw w h).1, fun x hx => ((hw w h).2.1 x hx).1⟩, fun x hx => ?_, by omega, ?_, ?_⟩
  · rcases joinL_mem 32 ws x hx with rfl | ⟨w, h, hx⟩
    · decide
    · exact ((hw w h).2.1 x hx).2
  · unfold passB
    rw [e, Bool.or_eq_false_iff, decide_eq_false_iff_not, decide_eq_false_iff_not]
    exact ⟨fun q => x1 (q x (List.mem_of_mem_head? e)), by simpa using x2⟩
  · rw [e]
    simp [x1]
theorem lok_t (ws : List (List Nat)) (hn : ws ≠ []) (h5 : ws.length ≤ 5) (hw : ∀ w ∈ ws, GWd w) : LOk (32 :: joinL 32 ws) true ws := by
  have hl := joinL_len 32 2000 ws fun w h => (hw w h).2.2
  have h2 : ws.length * (2000 + 1) ≤ 5 * 2001 := Nat.mul_le_mul h5 (by omega)
  have ej : 32 :: joinL 32 ws = joinL 32 ([] :: ws) := by
    cases ws with
    | nil => exact absurd rfl hn
    | cons w r => rfl
  have hx0 : ∃ x ∈ joinL 32 ws, x ≠ 32 := by
    cases ws with
    | nil => exact absurd rfl hn
    | cons w r =>
      have g := hw w (by simp)
      have := head_of_join 32 w r g.1
      cases w with
      | nil => exact absurd rfl g.1
      | cons x w => exact ⟨x, List.mem_of_mem_head? this, (g.2.1 x (by simp)).1⟩
  refine ⟨?_, fun x hx => ?_, by simp only [List.length_cons]; omega, ?_, by simp⟩
  · unfold wordsL
    rw [ej, splitL_join 32 _ (by simp) (by
      intro w h x hx
      rcases List.mem_cons.mp h with rfl | h
      · cases hx
      · exact ((hw w h).2.1 x hx).1), List.filter_cons_of_neg (by simp), List.filter_eq_self]
    intro w h
    simp [(hw w h).1]
  · rcases List.mem_cons.mp hx with rfl | hx
    · decide
    · rcases joinL_mem 32 ws x hx with rfl | ⟨w, h, hx⟩
      · decide
      · exact ((hw w h).2.1 x hx).2
  · unfold passB
    rw [Bool.or_eq_false_iff, decide_eq_false_iff_not, decide_eq_false_iff_not]
    obtain ⟨x, hx, h⟩ := hx0
    exact ⟨fun q => h (q x (by simp [hx])), by simp⟩
/-- texts that are no names anywhere -/
structure BadN (b : List Nat) : Prop where
  g : GWd b
  asc : ∀ c ∈ b, c < 128
  h59 : b.head? ≠ some 59
  no : ∀ (T : List Str) (star : Bool), readO (b.map lowN) T star = none
theorem bad_abs (b : List Nat) (X : List Str) (h1 : b ≠ [64]) (h2 : b ≠ [46]) (h3 : b.getLast? = some 46) (hX : (splitL 46 b.dropLast).reverse.map tx = X) (h : ∀ star, ¬ (X.length ≤ 10 ∧ (plainL X star).all isWordS = true)) (T : List Str) (star : Bool) : readO b T star = none := by
  unfold readO
  have e : beneathL b T = X := by
    unfold beneathL
    rw [if_neg h1, if_neg h2, if_pos h3, hX]
  rw [e, if_neg (h star)]
theorem bad_rel (b : List Nat) (X : List Str) (h1 : b ≠ [64]) (h2 : b ≠ [46]) (h3 : b.getLast? ≠ some 46) (hX : (splitL 46 b).reverse.map tx = X) (hn : X ≠ []) (h : ∀ star, (plainL X star).all isWordS = false) (T : List Str) (star : Bool) : readO b T star = none := by
  unfold readO
  have e : beneathL b T = T ++ X := by
    unfold beneathL
    rw [if_neg h1, if_neg h2, if_neg h3, hX]
  have e2 : plainL (T ++ X) star = T ++ plainL X star := by
    unfold plainL
    have : (T ++ X).getLast? = X.getLast? := by
      rw [List.getLast?_append, List.getLast?_eq_some_getLast hn]
      rfl
    rw [this]
    split
    · rw [List.dropLast_append_of_ne_nil hn]
    · rfl
  rw [e, if_neg]
  rw [e2, List.all_append, h star, Bool.and_false]
  exact fun q => by cases q.2
section
variable {T : List Str} {Rs : List Row} {l b c d : List Nat} {n : List Str}
theorem top_le (hT : T.all isWordS = true) (hl : T.length ≤ 9) : T.length ≤ 1000 ∧ ∀ w ∈ T, w.length ≤ 1000 := ⟨by omega, fun w hw => by
  have := ((NmOk.all T hT hl).wd w hw).2
  omega⟩
theorem sh_gwd (h : NmOk n) : GWd (sh n) := ⟨sh_ne n, fun x hx => ⟨(sh_sign h x hx).1, (sh_sign h x hx).2.1⟩, h.slen⟩
theorem sh_59 (h : NmOk n) : (sh n).head? ≠ some 59 := fun e => (sh_head h 59 e).2.2.1 rfl
theorem pa_name (hT : T.all isWordS = true) (hl : T.length ≤ 9) (h : LOk l false [sh n, b, c, d]) (hn : NmOk n) (hp : n.take T.length = T) : Parts T Rs l n [b, c, d] := fun k =>
  r_parts l (sh n) b c d (by have := h.len; omega) h.wd (fun e => by simpa using h.b.mp e) (fun c hc => (sh_sign hn c hc).2.2.2.1) (by have := hn.slen; omega) T (top_le hT hl).1 (top_le hT hl).2 n (read_nm hn T) hp Rs k
theorem pa_last (h : LOk l true [b, c, d]) {r : Row} (hr : Rs.getLast? = some r) : Parts T Rs l r.nm [b, c, d] := fun k =>
  r_parts2 l b c d (by have := h.len; omega) h.wd (h.b.mpr rfl) T Rs r hr k
theorem few (h : LOk l false ws) (hw : ws.length ≠ 4) : Ref T Rs l "BadRow" := rf_row_parts fun k => rf_parts_many l (by have := h.len; omega) (fun e => by simpa using h.b.mp e) (by rw [h.wd]; exact hw) T Rs k
theorem few_b (h : LOk l true ws) (hw : ws.length ≠ 3 ∨ Rs = []) : Ref T Rs l "BadRow" := rf_row_parts fun k => rf_parts_blank l (by have := h.len; omega) (h.b.mpr rfl) T Rs (by rw [h.wd]; exact hw) k
theorem no_name (hT : T.all isWordS = true) (hl : T.length ≤ 9) {a : List Nat} (h : LOk l false [a, b, c, d]) (ha : BadN a) : Ref T Rs l "BadName" := rf_row_parts fun k =>
  rf_parts_name l a b c d (by have := h.len; omega) h.wd (fun e => by simpa using h.b.mp e) ha.asc (by have := ha.g.2.2; omega) T (top_le hT hl).1 (top_le hT hl).2 (ha.no T true) Rs k
theorem out_name (hT : T.all isWordS = true) (hl : T.length ≤ 9) (h : LOk l false [sh n, b, c, d]) (hn : NmOk n) (hp : n.take T.length ≠ T) : Ref T Rs l "Outside" := rf_row_parts fun k =>
  rf_parts_out l (sh n) b c d (by have := h.len; omega) h.wd (fun e => by simpa using h.b.mp e) (fun c hc => (sh_sign hn c hc).2.2.2.1) (by have := hn.slen; omega) T (top_le hT hl).1 (top_le hT hl).2 n (read_nm hn T) hp Rs k
theorem no_value (hT : T.all isWordS = true) (hl : T.length ≤ 9) (hp : Parts T Rs l n [b, c, d]) (hbl : b.length ≤ 1000000) {i : Nat} (hb : lifeO b = some i) (hcl : c.length ≤ 1000000) (hc : kindB c = true) (hq : point (tx c) = true) (hd : BadN d) : Ref T Rs l "BadName" :=
  rf_row_value hp hbl hb hcl hc fun k => rf_value_p k (tx c) hq d hd.asc (by have := hd.g.2.2; omega) T (top_le hT hl).1 (top_le hT hl).2 (hd.no T false)
theorem no_value_s (hp : Parts T Rs l n [b, c, d]) (hbl : b.length ≤ 1000000) {i : Nat} (hb : lifeO b = some i) (hcl : c.length ≤ 1000000) (hc : kindB c = true) (hq : point (tx c) = false) (hdl : d.length ≤ 1000000) (hd : valueB d = false) : Ref T Rs l "BadRow" :=
  rf_row_value hp hbl hb hcl hc fun k => rf_value_s k (tx c) hq d hdl hd T
theorem cut_here (hT : T.all isWordS = true) (hl : T.length ≤ 9) (hp : Parts T Rs l n [b, k_dn, k_wa]) (hbl : b.length ≤ 1000000) {i : Nat} (hb : lifeO b = some i) (hcut : n = T ∨ n.getLast? = some (Str.ofString "*")) : Ref T Rs l "BadCut" := by
  have ha : NmOk [tx [97]] := NmOk.all _ (by decide +kernel) (by decide)
  have hr : readO (k_wa.map lowN) T false = some [tx [97]] := by
    unfold readO
    have e : beneathL (k_wa.map lowN) T = [tx [97]] := by
      unfold beneathL
      rw [if_neg (by decide +kernel), if_neg (by decide +kernel), if_pos (by decide +kernel)]
      decide +kernel
    rw [e, if_pos (by decide +kernel)]
  exact rf_row_cut hp hbl hb (by decide +kernel) (by decide +kernel) (fun k => r_value_p k (tx k_dn) (by decide +kernel) k_wa (by decide +kernel) (by decide +kernel) T (top_le hT hl).1 (top_le hT hl).2 _ hr) (by decide +kernel) hcut
end
/-- a line with two wrong things -/
structure Dbl (T : List Str) (Rs : List Row) (p : List Nat × Str) : Prop where
  n10 : ∀ x ∈ p.1, x ≠ 10
  len : p.1.length ≤ 12000
  pas : passB p.1 = false
  ref : ∃ C, (p.2, C) ∈ ways ∧ Ref T Rs p.1 C
def dblD (p : List Nat × Str) : Dat := .tuple [.str (tx p.1), .str p.2]
theorem LOk.dbl {T : List Str} {Rs : List Row} {l : List Nat} {bl : Bool} {ws : List (List Nat)} {way C : Str} (h : LOk l bl ws) (hw : (way, C) ∈ ways) (r : Ref T Rs l C) : Dbl T Rs (l, way) := ⟨h.n10, h.len, h.pas, C, hw, r⟩
theorem cat_e (a s r : List Nat) (ha : a.length ≤ 400000) (hs : s.length ≤ 400000) (h : a ++ s = r) : binD .add (.str (tx a)) (.str (tx s)) = .ok (.str (tx r)) := by rw [cat_ok a s ha hs, h]
theorem gw_c (w : List Nat) (h : decide (GWd w) = true) : GWd w := of_decide_eq_true h
theorem tup_add (a : List Str) (w : Str) (h : a.length ≤ 100) : binD .add (nm a) (.tuple [.str w]) = .ok (nm (a ++ [w])) := by
  simp only [nm]
  rw [bin_tup _ _ (by simp; omega)]
  simp
def txD (w : List Nat) : Dat := .str (tx w)
theorem sl_to (L : List (List Nat)) (n : Nat) : slD (.list (L.map txD)) none (some (n : Int)) = .ok (.list ((L.take n).map txD)) := by
  simp only [slD, cut_to, List.map_take]
theorem sl_from (L : List (List Nat)) (n : Nat) : slD (.list (L.map txD)) (some (n : Int)) none = .ok (.list ((L.drop n).map txD)) := by
  simp only [slD, cut_from, List.map_drop]
theorem sl_rows (L : List Row) (n : Nat) : slD (.list (L.map rowD)) none (some (n : Int)) = .ok (.list ((L.take n).map rowD)) := by
  simp only [slD, cut_to, List.map_take]
theorem lst_add (A B : List (List Nat)) (h : A.length + B.length ≤ 1000000) : binD .add (.list (A.map txD)) (.list (B.map txD)) = .ok (.list ((A ++ B).map txD)) := by
  rw [bin_lst _ _ (by simpa using h), List.map_append]
theorem join_lines (L : List (List Nat)) (hn : L.length ≤ 65) (h : ∀ l ∈ L, l.length ≤ 12000) : m1D .join (.str (tx [10])) (.list (L.map txD)) = .ok (.str (tx (joinL 10 L))) := by
  refine join_s 10 L 12000 h ?_
  have h2 : L.length * (12000 + 1) ≤ 65 * 12001 := Nat.mul_le_mul hn (by omega)
  omega
def Bad (m : List Str) : Prop := 10 < m.length ∨ (∃ w ∈ m, isWordS w = false ∧ w ≠ Str.ofString "*") ∨ (∃ p q, m = p ++ Str.ofString "*" :: q ∧ q ≠ [])
theorem bad_read (t : List Nat) (top m : List Str) (star : Bool) (e : beneathL t top = m) (b : Bad m) : readO t top star = none := by
  unfold readO
  rw [e]
  refine if_neg fun h => ?_
  obtain ⟨h1, h2⟩ := h
  rw [List.all_eq_true] at h2
  rcases b with b | ⟨w, hw, b1, b2⟩ | ⟨p, q, rfl, hq⟩
  · omega
  · have : w ∈ plainL m star := by
      unfold plainL
      split
      · rename_i z
        obtain ⟨k, rfl⟩ : ∃ k, m = k ++ [Str.ofString "*"] := by
          have hne : m ≠ [] := fun y => by rw [y] at hw; cases hw
          have z2 := z.2
          refine ⟨m.dropLast, ?_⟩
          rw [List.getLast?_eq_some_getLast hne] at z2
          have z2 := Option.some.inj z2
          rw [← z2]
          exact (List.dropLast_concat_getLast hne).symm
        rw [List.dropLast_concat]
        rcases List.mem_append.mp hw with hw | hw
        · exact hw
        · rw [List.mem_singleton] at hw
          exact absurd hw b2
      · exact hw
    have := h2 w this
    rw [b1] at this
    cases this
  · have : Str.ofString "*" ∈ plainL (p ++ Str.ofString "*" :: q) star := by
      unfold plainL
      split
      · obtain ⟨k, z, rfl⟩ : ∃ k z, q = k ++ [z] := ⟨q.dropLast, q.getLast hq, (List.dropLast_concat_getLast hq).symm⟩
        have : p ++ Str.ofString "*" :: (k ++ [z]) = (p ++ Str.ofString "*" :: k) ++ [z] := by simp
        rw [this, List.dropLast_concat]
        simp
      · simp
    have := h2 _ this
    rw [star_no] at this
    cases this
theorem splitL_has (c x : Nat) (h : x ≠ c) : ∀ b : List Nat, x ∈ b → ∃ w ∈ splitL c b, x ∈ w
  | [], hx => by cases hx
  | y :: b, hx => by
    unfold splitL
    rcases List.mem_cons.mp hx with rfl | hx
    · rw [if_neg h]
      cases splitL c b with
      | nil => exact ⟨[x], by simp, by simp⟩
      | cons w r => exact ⟨x :: w, by simp, by simp⟩
    · obtain ⟨w, hw, hxw⟩ := splitL_has c x h b hx
      split
      · exact ⟨w, by simp [hw], hxw⟩
      · cases q : splitL c b with
        | nil => rw [q] at hw; cases hw
        | cons v r =>
          rw [q] at hw
          rcases List.mem_cons.mp hw with rfl | hw
          · exact ⟨y :: w, by simp, by simp [hxw]⟩
          · exact ⟨w, by simp [hw], hxw⟩
theorem splitL_end (c : Nat) : ∀ b : List Nat, splitL c (b ++ [c]) = splitL c b ++ [[]]
  | [] => by simp [splitL]
  | y :: b => by
    rw [List.cons_append]
    have ih := splitL_end c b
    unfold splitL
    by_cases h : y = c
    · rw [if_pos h, if_pos h, ih]
      rfl
    · rw [if_neg h, if_neg h, ih]
      cases q : splitL c b with
      | nil => exact absurd q (splitL_ne c b)
      | cons w r => rfl
theorem piece_bad (p : List Nat) (x : Nat) (hx : x ∈ p) (h1 : x ∉ signs) (h3 : x ≠ 42) : isWordS (tx p) = false ∧ tx p ≠ Str.ofString "*" := by
  refine ⟨?_, fun e => ?_⟩
  · unfold isWordS isWordL
    rw [tx_list]
    cases q : (p.all fun c => decide (c ∈ signs)) with
    | false => rw [Bool.and_false]
    | true => exact absurd (of_decide_eq_true (List.all_eq_true.mp q x hx)) h1
  · rw [star_s, tx_eq] at e
    rw [e, List.mem_singleton] at hx
    exact h3 hx
theorem empty_bad : isWordS (tx []) = false ∧ tx [] ≠ Str.ofString "*" := by decide +kernel
theorem drop_last (b : List Nat) (c : Nat) (h : b.getLast? = some c) : b = b.dropLast ++ [c] := by
  have hne : b ≠ [] := fun e => by rw [e] at h; cases h
  rw [List.getLast?_eq_some_getLast hne] at h
  have := (List.dropLast_concat_getLast hne).symm
  rw [Option.some.inj h] at this
  exact this
theorem odd_read (b T : List _) (star : Bool) (x : Nat) (hx : x ∈ b) (h1 : x ∉ signs) (h2 : x ≠ 46) (h3 : x ≠ 42) (hb : b ≠ [64]) : readO b T star = none := by
  refine bad_read b T _ star rfl (.inr (.inl ?_))
  unfold beneathL
  rw [if_neg hb]
  by_cases h46 : b = [46]
  · rw [h46, List.mem_singleton] at hx
    exact absurd hx h2
  · rw [if_neg h46]
    have go : ∀ l : List Nat, x ∈ l → ∃ w ∈ (splitL 46 l).reverse.map tx, isWordS w = false ∧ w ≠ Str.ofString "*" := fun l hl => by
      obtain ⟨p, hp, hxp⟩ := splitL_has 46 x h2 l hl
      exact ⟨tx p, List.mem_map.mpr ⟨p, List.mem_reverse.mpr hp, rfl⟩, piece_bad p x hxp h1 h3⟩
    by_cases hl : b.getLast? = some 46
    · rw [if_pos hl]
      refine go _ ?_
      rw [drop_last b 46 hl] at hx
      rcases List.mem_append.mp hx with hx | hx
      · exact hx
      · rw [List.mem_singleton] at hx
        exact absurd hx h2
    · rw [if_neg hl]
      obtain ⟨w, hw, h⟩ := go b hx
      exact ⟨w, List.mem_append_right _ hw, h⟩
theorem dot_front (b : List Nat) (T : List Str) (star : Bool) (hl : (46 :: b).getLast? = some 46) (hb : b ≠ []) : readO (46 :: b) T star = none := by
  refine bad_read _ T _ star rfl (.inr (.inl ⟨tx [], ?_, empty_bad⟩))
  unfold beneathL
  rw [if_neg (by simp), if_neg (by simpa using hb), if_pos hl]
  refine List.mem_map.mpr ⟨[], List.mem_reverse.mpr ?_, rfl⟩
  cases b with
  | nil => exact absurd rfl hb
  | cons y b =>
    show [] ∈ splitL 46 (46 :: (y :: b).dropLast)
    unfold splitL
    simp
theorem dot_end (b : List Nat) (T : List Str) (star : Bool) (hl : b.getLast? = some 46) : readO (b ++ [46]) T star = none := by
  refine bad_read _ T _ star rfl (.inr (.inl ⟨tx [], ?_, empty_bad⟩))
  have hne : b ≠ [] := fun e => by rw [e] at hl; cases hl
  unfold beneathL
  rw [if_neg (fun e => by have := congrArg List.getLast? e; simp at this), if_neg (fun e => by
    have := congrArg List.length e
    simp at this
    exact hne this), if_pos (by simp), List.dropLast_concat]
  refine List.mem_map.mpr ⟨[], List.mem_reverse.mpr ?_, rfl⟩
  rw [drop_last b 46 hl, splitL_end]
  simp
theorem shownL_len : ∀ n : List Str, (∀ w ∈ n, w.length ≤ 12) → (shownL n).length ≤ 13 * n.length
  | [], _ => by simp [shownL]
  | w :: r, h => by
    have h1 := h w (by simp)
    have h2 := shownL_len r fun x hx => h x (by simp [hx])
    rw [str_len] at h1
    simp only [shownL, List.length_append, List.length_cons, List.length_nil]
    omega
theorem NmOk.slen2 {n : List Str} (h : NmOk n) : (sh n).length ≤ 130 := by
  have h1 := shownL_len n fun w hw => (h.wd w hw).2
  have h2 := h.len
  unfold sh
  split
  · simp
  · omega
/-- signs that no name has -/
def odds : Str := Str.ofString "!\"#$&'()+,/:;<=>?@\u005b\\]^_`{|}~"
theorem odds_ok : odds.cps.toList.length = 28 ∧ ∀ x ∈ odds.cps.toList, x ∉ signs ∧ x ≠ 46 ∧ x ≠ 42 ∧ x ≠ 32 ∧ x ≠ 10 ∧ x < 128 ∧ lowN x = x := by decide +kernel
theorem map_low (b : List Nat) (h : ∀ x ∈ b, lowN x = x) : b.map lowN = b := by
  conv => rhs; rw [← List.map_id b]
  exact List.map_congr_left h
theorem bad_a13 : BadN (a13 ++ [46]) := ⟨by decide +kernel, by decide +kernel, by decide +kernel, fun T s => bad_abs _ _ (by decide +kernel) (by decide +kernel) (by decide +kernel) rfl (by decide +kernel) T s⟩
theorem bad_aps : BadN q_apstp := ⟨by decide +kernel, by decide +kernel, by decide +kernel, fun T s => bad_abs _ _ (by decide +kernel) (by decide +kernel) (by decide +kernel) rfl (by decide +kernel) T s⟩
theorem bad_sta : BadN q_stap := ⟨by decide +kernel, by decide +kernel, by decide +kernel, fun T s => bad_abs _ _ (by decide +kernel) (by decide +kernel) (by decide +kernel) rfl (by decide +kernel) T s⟩
theorem bad_stst : BadN q_stpstp := ⟨by decide +kernel, by decide +kernel, by decide +kernel, fun T s => bad_abs _ _ (by decide +kernel) (by decide +kernel) (by decide +kernel) rfl (by decide +kernel) T s⟩
theorem bad_bad8 : BadN bad8 := ⟨by decide +kernel, by decide +kernel, by decide +kernel, fun T s => bad_abs _ _ (by decide +kernel) (by decide +kernel) (by decide +kernel) rfl (by decide +kernel) T s⟩
theorem r_bad_name (n : List Str) (hn : NmOk n) (hne : n ≠ []) (c : Int) : ∃ b : List Nat, f_l_bad_name [nm n, .int c] = .ok (.str (tx b)) ∧ BadN b ∧ b.length ≤ 200 := by
  have n1 := r_name_text n (good_nm hn)
  rw [shown_sh] at n1
  have sl := hn.slen2
  have sg := sh_sign hn
  have sh46 := sh_last n
  have hsl : 2 ≤ (sh n).length := by
    have := shown_two n hn.part
    have h0 : 0 < n.length := List.length_pos_iff.mpr hne
    unfold sh
    rw [if_neg hne]
    omega
  have h59 := fun e => (sh_head hn 59 e).2.2.1 rfl
  generalize sh n = t at *
  have hlen : biD .len [.str (tx t)] = .ok (.int t.length) := by
    have : (tx t).length = t.length := tx_len t
    simp only [biD]
    rw [if_pos (by rw [this]; omega), this]
  have d1 : binD .div (.int c) (.int 8) = .ok (.int (c / 8)) := bin_div _ _ (by omega) (by omega)
  have d2 : binD .mod (.int (c / 8)) (.int ((t.length : Int) + 1)) = .ok (.int (c / 8 % ((t.length : Int) + 1))) := bin_mod _ _ (by omega)
  have m0 := Int.emod_nonneg (c / 8) (b := (t.length : Int) + 1) (by omega)
  have m1 := Int.emod_lt_of_pos (c / 8) (b := (t.length : Int) + 1) (by omega)
  obtain ⟨k, hk⟩ := Int.eq_ofNat_of_zero_le m0
  rw [hk] at d2 m1
  have d3 : binD .mul (.int c) (.int 48271) = .ok (.int (c * 48271)) := bin_mul _ _ (by decide)
  have d4 : binD .mod (.int (c * 48271)) (.int 65521) = .ok (.int (c * 48271 % 65521)) := bin_mod _ _ (by omega)
  have d5 : binD .mod (.int (c * 48271 % 65521)) (.int 28) = .ok (.int (c * 48271 % 65521 % 28)) := bin_mod _ _ (by omega)
  have d6 : binD .mod (.int c) (.int 8) = .ok (.int (c % 8)) := bin_mod _ _ (by omega)
  obtain ⟨x, hx, hq⟩ := at_chr odds (c * 48271 % 65521 % 28) (by omega) (by rw [odds_ok.1]; omega) (by rw [odds_ok.1]; decide)
  obtain ⟨o1, o2, o3, o4, o5, o6, o7⟩ := odds_ok.2 x hx
  unfold odds at hq
  generalize c * 48271 % 65521 % 28 = cc at *
  generalize c * 48271 % 65521 = cc2 at *
  generalize c * 48271 = cc3 at *
  generalize c / 8 = c8 at *
  have s1 : slD (.str (tx t)) none (some (k : Int)) = .ok (.str (tx (t.take k))) := by
    simp only [slD]
    rw [if_pos (by rw [tx_len]; omega), cutS_tx, cut_to]
  have s2 : slD (.str (tx t)) (some (k : Int)) none = .ok (.str (tx (t.drop k))) := by
    simp only [slD]
    rw [if_pos (by rw [tx_len]; omega), cutS_tx, cut_from]
  have c1 := cat_ok (t.take k) [x] (by simp; omega) (by simp)
  have c2 := cat_ok (t.take k ++ [x]) (t.drop k) (by simp; omega) (by simp; omega)
  have c3 := cat_ok [46] t (by simp) (by omega)
  have c4 := cat_ok t [46] (by omega) (by simp)
  have c5 := cat_ok a13 [46] (by decide) (by simp)
  have e0 : cmpD .eq (.str (tx t)) (.str (tx [46])) = .ok false := by
    have : decide (tx t = tx [46]) = false := decide_eq_false fun e => by
      rw [tx_eq] at e
      rw [e] at hsl
      simp at hsl
    simp [this]
  have g0 : ¬ (k = 0 ∧ x = 59) → BadN (t.take k ++ [x] ++ t.drop k) := fun hns => by
    have hmem : ∀ y ∈ t.take k ++ [x] ++ t.drop k, y = x ∨ y ∈ t := fun y hy => by
      rcases List.mem_append.mp hy with hy | hy
      · rcases List.mem_append.mp hy with hy | hy
        · exact .inr (List.mem_of_mem_take hy)
        · exact .inl (List.mem_singleton.mp hy)
      · exact .inr (List.mem_of_mem_drop hy)
    refine ⟨⟨by simp, fun y hy => ?_, by simp; omega⟩, fun y hy => ?_, fun e => ?_, fun T s => ?_⟩
    · rcases hmem y hy with rfl | hy
      · exact ⟨o4, o5⟩
      · exact ⟨(sg y hy).1, (sg y hy).2.1⟩
    · rcases hmem y hy with rfl | hy
      · exact o6
      · exact (sg y hy).2.2.2.1
    · cases k with
      | zero =>
        simp at e
        exact hns ⟨rfl, e⟩
      | succ k =>
        cases t with
        | nil => simp at hsl
        | cons y t =>
          simp at e
          exact h59 (by rw [e]; rfl)
    · rw [map_low _ fun y hy => by
        rcases hmem y hy with rfl | hy
        · exact o7
        · exact (sg y hy).2.2.2.2]
      refine odd_read _ T s x (by simp) o1 o2 o3 fun e => ?_
      have := congrArg List.length e
      simp at this
      omega
  have g1 : BadN (46 :: t) := by
    refine ⟨⟨by simp, fun y hy => ?_, by simp; omega⟩, fun y hy => ?_, by simp, fun T s => ?_⟩
    · rcases List.mem_cons.mp hy with rfl | hy
      · decide
      · exact ⟨(sg y hy).1, (sg y hy).2.1⟩
    · rcases List.mem_cons.mp hy with rfl | hy
      · decide
      · exact (sg y hy).2.2.2.1
    · rw [map_low _ fun y hy => by
        rcases List.mem_cons.mp hy with rfl | hy
        · decide
        · exact (sg y hy).2.2.2.2]
      have hne2 : t ≠ [] := fun e => by rw [e] at hsl; simp at hsl
      refine dot_front t T s ?_ hne2
      rw [List.getLast?_cons, sh46]
      rfl
  have g2 : BadN (t ++ [46]) := by
    have hmem : ∀ y ∈ t ++ [46], y = 46 ∨ y ∈ t := fun y hy => by
      rcases List.mem_append.mp hy with hy | hy
      · exact .inr hy
      · exact .inl (List.mem_singleton.mp hy)
    refine ⟨⟨by simp, fun y hy => ?_, by simp; omega⟩, fun y hy => ?_, fun e => ?_, fun T s => ?_⟩
    · rcases hmem y hy with rfl | hy
      · decide
      · exact ⟨(sg y hy).1, (sg y hy).2.1⟩
    · rcases hmem y hy with rfl | hy
      · decide
      · exact (sg y hy).2.2.2.1
    · cases t with
      | nil => simp at hsl
      | cons y t =>
        simp at e
        exact h59 (by rw [e]; rfl)
    · rw [map_low _ fun y hy => by
        rcases hmem y hy with rfl | hy
        · decide
        · exact (sg y hy).2.2.2.2]
      exact dot_end t T s sh46
  obtain ⟨b, hb, hqb⟩ := at_any (fun b : List Nat => PyData.str (tx b)) [t.take k ++ [x] ++ t.drop k, 46 :: t, t ++ [46], a13 ++ [46], q_apstp, q_stap, q_stpstp, bad8] (c % 8) (by omega) (by simp; omega)
  have qb1 : ixD (.list ([t.take k ++ [x] ++ t.drop k, 46 :: t, t ++ [46], a13 ++ [46], q_apstp, q_stap, q_stpstp, bad8].map fun b : List Nat => PyData.str (tx b))) (.int 1) = .ok (.str (tx (46 :: t))) := rfl
  simp only [List.map_cons, List.map_nil] at hqb qb1
  have lb : ∀ b ∈ [t.take k ++ [x] ++ t.drop k, 46 :: t, t ++ [46], a13 ++ [46], q_apstp, q_stap, q_stpstp, bad8], b.length ≤ 200 := fun b hb => by
    simp only [List.mem_cons, List.not_mem_nil, or_false] at hb
    rcases hb with rfl | rfl | rfl | rfl | rfl | rfl | rfl | rfl
    · simp; omega
    · simp; omega
    · simp; omega
    · decide
    · decide
    · decide
    · decide
    · decide
  have lb1 := lb (46 :: t) (by simp)
  have lbb := lb b hb
  have c3' : binD .add (.str (tx [46])) (.str (tx t)) = .ok (.str (tx (46 :: t))) := c3
  have e59 : cmpD .eq (.str (tx [x])) (.str (Str.ofString ";")) = .ok (decide (x = 59)) := by
    rw [semi_s]
    simp [tx_eq]
  have z00 : ((0 : Nat) : Int) = 0 := rfl
  by_cases hs : k = 0 ∧ x = 59
  · obtain ⟨rfl, rfl⟩ := hs
    refine ⟨46 :: t, ?_, g1, lb1⟩
    clear lb hqb hb lbb g0 g2 g1
    rw [z00] at s1 s2 d2
    generalize t.take 0 ++ [59] ++ t.drop 0 = z0 at *
    generalize t.take 0 ++ [59] = z01 at *
    generalize t.take 0 = z02 at *
    generalize t.drop 0 = z03 at *
    generalize 46 :: t = z1 at *
    generalize t ++ [46] = z2 at *
    generalize a13 ++ [46] = z3 at *
    simp [-ixD, -slD, -biD, f_l_bad_name, b_l_bad_name, n1, d1, hlen, d2, d3, d4, d5, hq, s1, s2, c1, c2, c3', c4, c5, dot_s, a13_s, q_apstp_s, q_stap_s, q_stpstp_s, bad8_s, e59, qb1]
  · refine ⟨b, ?_, ?_, lbb⟩
    · clear lb hb lbb g0 g2 g1
      have fin : ∀ (B : Bool), decide (c % 8 = 1) = B → f_l_bad_name [nm n, .int c] = .ok (.str (tx b)) := fun B hB => by
        by_cases hk0 : k = 0
        · have hx59 : x ≠ 59 := fun e => hs ⟨hk0, e⟩
          subst hk0
          rw [z00] at s1 s2 d2
          rw [decide_eq_false hx59] at e59
          generalize t.take 0 ++ [x] ++ t.drop 0 = z0 at *
          generalize t.take 0 ++ [x] = z01 at *
          generalize t.take 0 = z02 at *
          generalize t.drop 0 = z03 at *
          generalize 46 :: t = z1 at *
          generalize t ++ [46] = z2 at *
          generalize a13 ++ [46] = z3 at *
          generalize c % 8 = cm at *
          cases B with
          | true =>
            have h81 := of_decide_eq_true hB
            subst h81
            simp [-ixD, -slD, -biD, f_l_bad_name, b_l_bad_name, n1, d1, hlen, d2, d3, d4, d5, d6, hq, s1, s2, c1, c2, c3', c4, c5, dot_s, a13_s, q_apstp_s, q_stap_s, q_stpstp_s, bad8_s, e59, e0, hqb]
          | false =>
            have h81 := of_decide_eq_false hB
            simp [-ixD, -slD, -biD, f_l_bad_name, b_l_bad_name, n1, d1, hlen, d2, d3, d4, d5, d6, hq, s1, s2, c1, c2, c3', c4, c5, dot_s, a13_s, q_apstp_s, q_stap_s, q_stpstp_s, bad8_s, e59, h81, e0, hqb]
        · have hk1 : ¬ (k : Int) = 0 := by omega
          generalize t.take k ++ [x] ++ t.drop k = z0 at *
          generalize t.take k ++ [x] = z01 at *
          generalize t.take k = z02 at *
          generalize t.drop k = z03 at *
          generalize 46 :: t = z1 at *
          generalize t ++ [46] = z2 at *
          generalize a13 ++ [46] = z3 at *
          generalize c % 8 = cm at *
          generalize (k : Int) = kk at *
          cases B with
          | true =>
            have h81 := of_decide_eq_true hB
            subst h81
            simp [-ixD, -slD, -biD, f_l_bad_name, b_l_bad_name, n1, d1, hlen, d2, d3, d4, d5, d6, hq, s1, s2, c1, c2, c3', c4, c5, dot_s, a13_s, q_apstp_s, q_stap_s, q_stpstp_s, bad8_s, e59, hk1, e0, hqb]
          | false =>
            have h81 := of_decide_eq_false hB
            simp [-ixD, -slD, -biD, f_l_bad_name, b_l_bad_name, n1, d1, hlen, d2, d3, d4, d5, d6, hq, s1, s2, c1, c2, c3', c4, c5, dot_s, a13_s, q_apstp_s, q_stap_s, q_stpstp_s, bad8_s, e59, hk1, h81, e0, hqb]
      exact fin _ rfl
    · simp only [List.mem_cons, List.not_mem_nil, or_false] at hb
      rcases hb with rfl | rfl | rfl | rfl | rfl | rfl | rfl | rfl
      · exact g0 hs
      · exact g1
      · exact g2
      · exact bad_a13
      · exact bad_aps
      · exact bad_sta
      · exact bad_stst
      · exact bad_bad8
theorem mem_join (c : Nat) : ∀ (ws : List (List Nat)) (w : List Nat) (x : Nat), w ∈ ws → x ∈ w → x ∈ joinL c ws
  | [], _, _, h, _ => by cases h
  | [v], w, x, h, hx => by
    rw [List.mem_singleton] at h
    subst h
    exact hx
  | v :: u :: r, w, x, h, hx => by
    unfold joinL
    rcases List.mem_cons.mp h with rfl | h
    · exact List.mem_append_left _ hx
    · exact List.mem_append_right _ (List.mem_cons_of_mem _ (mem_join c (u :: r) w x h hx))
theorem lok_g (ws : List (List Nat)) (bl : Bool) (hl : ws.length ≤ 7) (hw : ∀ w ∈ ws, (∀ x ∈ w, x ≠ 32 ∧ x ≠ 10) ∧ w.length ≤ 1500) (hne : ∃ w ∈ ws, w ≠ []) (hh : (bl = true ∧ ∃ v r, ws = [] :: v :: r) ∨ (bl = false ∧ ∃ w r, ws = w :: r ∧ w ≠ [] ∧ w.head? ≠ some 59)) : LOk (joinL 32 ws) bl (ws.filter fun w => !decide (w = [])) := by
  have hn : ws ≠ [] := fun e => by
    obtain ⟨w, h, _⟩ := hne
    rw [e] at h
    cases h
  have h1 := joinL_len 32 1500 ws fun w h => (hw w h).2
  have h2 : ws.length * (1500 + 1) ≤ 7 * 1501 := Nat.mul_le_mul hl (by omega)
  have hx : ∃ x ∈ joinL 32 ws, x ≠ 32 := by
    obtain ⟨w, h, hw0⟩ := hne
    cases w with
    | nil => exact absurd rfl hw0
    | cons x w => exact ⟨x, mem_join 32 ws _ x h (by simp), ((hw _ h).1 x (by simp)).1⟩
  have hd : (joinL 32 ws).head? ≠ some 59 ∧ ((joinL 32 ws).head? = some 32 ↔ bl = true) := by
    rcases hh with ⟨rfl, v, r, rfl⟩ | ⟨rfl, w, r, rfl, hw0, h59⟩
    · exact ⟨by simp [joinL], by simp [joinL]⟩
    · rw [head_of_join 32 w r hw0]
      refine ⟨h59, ?_⟩
      cases w with
      | nil => exact absurd rfl hw0
      | cons x w =>
        have := ((hw _ (List.mem_cons_self ..)).1 x (by simp)).1
        simp [this]
  refine ⟨?_, fun x hx => ?_, by omega, ?_, hd.2⟩
  · unfold wordsL
    rw [splitL_join 32 ws hn fun w h x hx => ((hw w h).1 x hx).1]
  · rcases joinL_mem 32 ws x hx with rfl | ⟨w, h, hx⟩
    · decide
    · exact ((hw w h).1 x hx).2
  · unfold passB
    rw [Bool.or_eq_false_iff, decide_eq_false_iff_not, decide_eq_false_iff_not]
    obtain ⟨x, hx, h⟩ := hx
    exact ⟨fun q => h (q x hx), hd.1⟩
theorem sh_c {n : List Str} (h : NmOk n) : (∀ x ∈ sh n, x ≠ 32 ∧ x ≠ 10) ∧ (sh n).length ≤ 1500 := ⟨(sh_gwd h).2.1, by have := h.slen2; omega⟩
def cOk (w : List Nat) : Bool := (w.all fun x => decide (x ≠ 32 ∧ x ≠ 10)) && decide (w.length ≤ 1500)
theorem cok {w : List Nat} (h : cOk w = true) : (∀ x ∈ w, x ≠ 32 ∧ x ≠ 10) ∧ w.length ≤ 1500 := by
  unfold cOk at h
  rw [Bool.and_eq_true, decide_eq_true_eq, List.all_eq_true] at h
  exact ⟨fun x hx => of_decide_eq_true (h.1 x hx), h.2⟩
/-- a line of a name and other words -/
theorem lok_n {n : List Str} (h : NmOk n) (ws : List (List Nat)) (hl : ws.length ≤ 6) (hw : ∀ w ∈ ws, (∀ x ∈ w, x ≠ 32 ∧ x ≠ 10) ∧ w.length ≤ 1500) : LOk (joinL 32 (sh n :: ws)) false ((sh n :: ws).filter fun w => !decide (w = [])) :=
  lok_g _ _ (by simp; omega) (fun w hw' => by
    rcases List.mem_cons.mp hw' with rfl | hw'
    · exact sh_c h
    · exact hw w hw') ⟨sh n, by simp, sh_ne n⟩ (.inr ⟨rfl, sh n, ws, rfl, sh_ne n, sh_59 h⟩)
theorem few_n {T : List Str} {Rs : List Row} {n : List Str} (h : NmOk n) (ws : List (List Nat)) (hl : ws.length ≤ 6) (hw : (ws.all cOk) = true) (hc : (ws.filter fun w => !decide (w = [])).length ≠ 3) : Dbl T Rs (joinL 32 (sh n :: ws), "row") := by
  have z := lok_n h ws hl fun w hw' => cok (List.all_eq_true.mp hw w hw')
  refine z.dbl (C := "BadRow") (by decide +kernel) (few z ?_)
  rw [List.filter_cons_of_pos (by simp [sh_ne n])]
  simp only [List.length_cons]
  omega
theorem lives_bad : ∀ l ∈ badLives, lifeO l = none ∧ GWd l := by decide +kernel
theorem kinds_bad : ∀ l ∈ badKinds, kindB l = false ∧ GWd l ∧ l.length ≤ 9 := by decide +kernel
theorem GWd.cat {w : List Nat} (h : GWd w) : w.length ≤ 400000 := by have := h.2.2; omega
theorem five_life : lifeO k_w5 = some 5 := by decide +kernel
/-- lines that are refused as rows -/
def rowsL (N : List Nat) : List (List Nat) :=
  [N, joinL 32 [N, k_w5], joinL 32 [N, k_w5, k_mk], joinL 32 [N, k_w5, k_mk, k_wx, k_wy], joinL 32 [N, k_w5, k_mk, k_wx, k_wy, k_wz], joinL 32 [N, k_w5, k_mk, [], k_wx, k_wy]] ++
  [q_zone_p_5, q__5_mark, q__5_mark_x_y, q__mark_x, joinL 32 [[], [], N, k_w5, k_mk, k_wx], q__5] ++
  badLives.map (fun l => joinL 32 [N, l, k_mk, k_wx]) ++ badKinds.map (fun l => joinL 32 [N, k_w5, l, k_wx]) ++
  [joinL 32 [N, k_w5, k_mk, k_x41], joinL 32 [N, k_w5, k_dn, k_wx, k_wy], joinL 32 [N, k_w5, k_el]] ++
  [q___sc_a_remark, q__sc, q__sc_x_y]
theorem rowsL_ok {T : List Str} (hT : T.all isWordS = true) (l9 : T.length ≤ 9) {n : List Str} (h : NmOk n) (hp : n.take T.length = T) (Rs : List Row) : ∀ l ∈ rowsL (sh n), Dbl T Rs (l, "row") := fun l hl => by
  have blank : ∀ (ws : List (List Nat)), ws.length ≤ 6 → ws ≠ [] → (∀ w ∈ ws, (∀ x ∈ w, x ≠ 32 ∧ x ≠ 10) ∧ w.length ≤ 1500) → (∃ w ∈ ws, w ≠ []) → LOk (joinL 32 ([] :: ws)) true (ws.filter fun w => !decide (w = [])) := fun ws h6 hn hw hne => by
    have := lok_g ([] :: ws) true (by simp; omega) (fun w hw' => by
      rcases List.mem_cons.mp hw' with rfl | hw'
      · exact ⟨by simp, by simp⟩
      · exact hw w hw') (by obtain ⟨w, h1, h2⟩ := hne; exact ⟨w, by simp [h1], h2⟩) (.inl ⟨rfl, by
        cases ws with
        | nil => exact absurd rfl hn
        | cons v r => exact ⟨v, r, rfl⟩⟩)
    rw [List.filter_cons_of_neg (by simp)] at this
    exact this
  have few_c : ∀ ws : List (List Nat), ws.length ≤ 6 → ws ≠ [] → (ws.all cOk) = true → (∃ w ∈ ws, w ≠ []) → (ws.filter fun w => !decide (w = [])).length ≠ 3 → Dbl T Rs (joinL 32 ([] :: ws), "row") := fun ws h6 hn hw hne hc => by
    have z := blank ws h6 hn (fun w hw' => cok (List.all_eq_true.mp hw w hw')) hne
    exact z.dbl (C := "BadRow") (by decide +kernel) (few_b z (.inl hc))
  have last3 : ∀ (b c d : List Nat), GWd b → GWd c → GWd d → b.length ≤ 1500 → c.length ≤ 1500 → d.length ≤ 1500 → lifeO b = none → ∀ ws : List (List Nat), ws.length ≤ 6 → ws ≠ [] → (ws.all cOk) = true → (∃ w ∈ ws, w ≠ []) → (ws.filter fun w => !decide (w = [])) = [b, c, d] → Dbl T Rs (joinL 32 ([] :: ws), "row") := fun b c d gb gc gd bl cl dl hb ws h6 hn hw hne hf => by
    have z := blank ws h6 hn (fun w hw' => cok (List.all_eq_true.mp hw w hw')) hne
    rw [hf] at z
    by_cases hz : Rs = []
    · exact z.dbl (C := "BadRow") (by decide +kernel) (few_b z (.inr hz))
    · exact z.dbl (C := "BadRow") (by decide +kernel) (rf_row_life (pa_last z (List.getLast?_eq_some_getLast hz)) (by omega) hb)
  unfold rowsL at hl
  simp only [List.mem_append] at hl
  rcases hl with ((((hl | hl) | hl) | hl) | hl) | hl
  · simp only [List.mem_cons, List.not_mem_nil, or_false] at hl
    rcases hl with rfl | rfl | rfl | rfl | rfl | rfl
    · exact few_n h [] (by simp) rfl (by simp)
    · exact few_n h [k_w5] (by decide) (by decide +kernel) (by decide +kernel)
    · exact few_n h [k_w5, k_mk] (by decide) (by decide +kernel) (by decide +kernel)
    · exact few_n h [k_w5, k_mk, k_wx, k_wy] (by decide) (by decide +kernel) (by decide +kernel)
    · exact few_n h [k_w5, k_mk, k_wx, k_wy, k_wz] (by decide) (by decide +kernel) (by decide +kernel)
    · exact few_n h [k_w5, k_mk, [], k_wx, k_wy] (by decide) (by decide +kernel) (by decide +kernel)
  · simp only [List.mem_cons, List.not_mem_nil, or_false] at hl
    rcases hl with rfl | rfl | rfl | rfl | rfl | rfl
    · have z : LOk (joinL 32 [zoneW, k_dot, k_w5]) false _ := lok_f [zoneW, k_dot, k_w5] (by simp) (by simp) (by decide +kernel) (by intro w h; cases h; decide)
      exact z.dbl (C := "BadRow") (by decide +kernel) (few z (by simp))
    · exact few_c [k_w5, k_mk] (by decide) (by simp) (by decide +kernel) ⟨k_w5, by simp, by decide⟩ (by decide +kernel)
    · exact few_c [k_w5, k_mk, k_wx, k_wy] (by decide) (by simp) (by decide +kernel) ⟨k_w5, by simp, by decide⟩ (by decide +kernel)
    · exact few_c [k_mk, k_wx] (by decide) (by simp) (by decide +kernel) ⟨k_mk, by simp, by decide⟩ (by decide +kernel)
    · have z := blank [[], sh n, k_w5, k_mk, k_wx] (by simp) (by simp) (fun w hw => by
        simp only [List.mem_cons, List.not_mem_nil, or_false] at hw
        rcases hw with rfl | rfl | rfl | rfl | rfl
        · exact cok (by decide +kernel)
        · exact sh_c h
        · exact cok (by decide +kernel)
        · exact cok (by decide +kernel)
        · exact cok (by decide +kernel)) ⟨sh n, by simp, sh_ne n⟩
      refine z.dbl (C := "BadRow") (by decide +kernel) (few_b z (.inl ?_))
      simp [sh_ne n, k_w5, k_mk, k_wx]
    · exact few_c [k_w5] (by decide) (by simp) (by decide +kernel) ⟨k_w5, by simp, by decide⟩ (by decide +kernel)
  · obtain ⟨b, hb, rfl⟩ := List.mem_map.mp hl
    obtain ⟨b1, b2⟩ := lives_bad b hb
    have z : LOk (joinL 32 [sh n, b, k_mk, k_wx]) false _ := lok_f [sh n, b, k_mk, k_wx] (by simp) (by simp) (by simp [sh_gwd h, b2]; decide) (by intro w hh; cases hh; exact sh_59 h)
    exact z.dbl (C := "BadRow") (by decide +kernel) (rf_row_life (pa_name hT l9 z h hp) (by have := b2.2.2; omega) b1)
  · obtain ⟨b, hb, rfl⟩ := List.mem_map.mp hl
    obtain ⟨b1, b2, b3⟩ := kinds_bad b hb
    have z : LOk (joinL 32 [sh n, k_w5, b, k_wx]) false _ := lok_f [sh n, k_w5, b, k_wx] (by simp) (by simp) (by simp [sh_gwd h, b2]; decide) (by intro w hh; cases hh; exact sh_59 h)
    exact z.dbl (C := "BadRow") (by decide +kernel) (rf_row_kind (pa_name hT l9 z h hp) (by decide) five_life (by omega) b1)
  · simp only [List.mem_cons, List.not_mem_nil, or_false] at hl
    rcases hl with rfl | rfl | rfl
    · have z : LOk (joinL 32 [sh n, k_w5, k_mk, k_x41]) false _ := lok_f [sh n, k_w5, k_mk, k_x41] (by simp) (by simp) (by simp [sh_gwd h]; decide) (by intro w hh; cases hh; exact sh_59 h)
      exact z.dbl (C := "BadRow") (by decide +kernel) (no_value_s (pa_name hT l9 z h hp) (by decide) five_life (by decide) (by decide +kernel) (by decide +kernel) (by decide) (by decide +kernel))
    · exact few_n h [k_w5, k_dn, k_wx, k_wy] (by decide) (by decide +kernel) (by decide +kernel)
    · exact few_n h [k_w5, k_el] (by decide) (by decide +kernel) (by decide +kernel)
  · simp only [List.mem_cons, List.not_mem_nil, or_false] at hl
    rcases hl with rfl | rfl | rfl
    · exact last3 k_ap k_a1 k_arem (by decide +kernel) (by decide +kernel) (by decide +kernel) (by decide) (by decide) (by decide) (by decide +kernel) [[], k_ap, k_a1, k_arem] (by decide) (by simp) (by decide +kernel) ⟨k_ap, by simp, by decide⟩ (by decide +kernel)
    · exact few_c [k_ap] (by decide) (by simp) (by decide +kernel) ⟨k_ap, by simp, by decide⟩ (by decide +kernel)
    · exact last3 k_ap k_wx k_wy (by decide +kernel) (by decide +kernel) (by decide +kernel) (by decide) (by decide) (by decide) (by decide +kernel) [k_ap, k_wx, k_wy] (by decide) (by simp) (by decide +kernel) ⟨k_ap, by simp, by decide⟩ (by decide +kernel)
theorem rowsL_len (N : List Nat) : (rowsL N).length = 33 := rfl
theorem r_bad_rows {n : List Str} (h : NmOk n) (c : Int) : ∃ l ∈ rowsL (sh n), f_l_bad_rows [.str (tx (sh n)), .int c] = .ok (.str (tx l)) := by
  have nl := h.slen2
  have d1 : binD .mod (.int c) (.int 33) = .ok (.int (c % 33)) := bin_mod _ _ (by omega)
  obtain ⟨l, hl, hq⟩ := at_any txD (rowsL (sh n)) (c % 33) (by omega) (by rw [rowsL_len]; omega)
  refine ⟨l, hl, ?_⟩
  clear hl
  have e0 : ev Q_l_bad_rows e0_l_bad_rows [.fz (.str (tx (sh n))), .fz (.int c), .fz (.list (([sh n, joinL 32 [sh n, k_w5], joinL 32 [sh n, k_w5, k_mk], joinL 32 [sh n, k_w5, k_mk, k_wx, k_wy], joinL 32 [sh n, k_w5, k_mk, k_wx, k_wy, k_wz], joinL 32 [sh n, k_w5, k_mk, [], k_wx, k_wy]] ++
  [q_zone_p_5, q__5_mark, q__5_mark_x_y, q__mark_x, joinL 32 [[], [], sh n, k_w5, k_mk, k_wx], q__5]).map txD)), .un, .un] = .ok (.list ((badLives.map fun l => joinL 32 [sh n, l, k_mk, k_wx]).map txD)) := by
    rw [List.map_map]
    refine lc_map (fun l : List Nat => PyData.str (tx l)) (txD ∘ fun l => joinL 32 [sh n, l, k_mk, k_wx]) badLives ?_ (by decide) fun l hl => ⟨_, rfl, by simp, ?_⟩
    · simp [badLives, life0_s, life1_s, life2_s, life3_s, life4_s, life5_s, life6_s, life7_s]
    · have ll := (lives_bad l hl).2.cat
      have c1 := cat_ok (sh n) [32] (by omega) (by simp)
      have lll := (lives_bad l hl).2.2.2
      have c2 := cat_ok (sh n ++ [32]) l (by simp; omega) ll
      have c3 := cat_e (sh n ++ [32] ++ l) q__mark_x (joinL 32 [sh n, l, k_mk, k_wx]) (by simp; omega) (by decide) (by simp [joinL, q__mark_x, k_mk, k_wx])
      show ev Q_l_bad_rows _ _ = .ok (.str (tx (joinL 32 [sh n, l, k_mk, k_wx])))
      generalize joinL 32 [sh n, l, k_mk, k_wx] = z at *
      generalize sh n ++ [32] ++ l = z1 at *
      generalize sh n ++ [32] = z2 at *
      simp [blank_s, q__mark_x_s, c1, c2, c3]
  have e1 : ∀ A : Dat, ev Q_l_bad_rows e1_l_bad_rows [.fz (.str (tx (sh n))), .fz (.int c), .fz A, .un, .un] = .ok (.list ((badKinds.map fun l => joinL 32 [sh n, k_w5, l, k_wx]).map txD)) := fun A => by
    rw [List.map_map]
    refine lc_map (fun l : List Nat => PyData.str (tx l)) (txD ∘ fun l => joinL 32 [sh n, k_w5, l, k_wx]) badKinds ?_ (by decide) fun l hl => ⟨_, rfl, by simp, ?_⟩
    · simp [badKinds, kind0_s, kind1_s, kind2_s, kind3_s, kind4_s, kind5_s, kind6_s]
    · have ll := (kinds_bad l hl).2.2
      have c1 := cat_ok (sh n) q__5_ (by omega) (by decide)
      have c2 := cat_ok (sh n ++ q__5_) l (by simp [q__5_]; omega) (by omega)
      have c3 := cat_e (sh n ++ q__5_ ++ l) q__x (joinL 32 [sh n, k_w5, l, k_wx]) (by simp [q__5_]; omega) (by decide) (by simp [joinL, q__5_, q__x, k_w5, k_wx])
      show ev Q_l_bad_rows _ _ = .ok (.str (tx (joinL 32 [sh n, k_w5, l, k_wx])))
      generalize joinL 32 [sh n, k_w5, l, k_wx] = z at *
      generalize sh n ++ q__5_ ++ l = z1 at *
      generalize sh n ++ q__5_ = z2 at *
      simp [q__5__s, q__x_s, c1, c2, c3]
  have e1 := e1 (.list (([sh n, joinL 32 [sh n, k_w5], joinL 32 [sh n, k_w5, k_mk], joinL 32 [sh n, k_w5, k_mk, k_wx, k_wy], joinL 32 [sh n, k_w5, k_mk, k_wx, k_wy, k_wz], joinL 32 [sh n, k_w5, k_mk, [], k_wx, k_wy]] ++
  [q_zone_p_5, q__5_mark, q__5_mark_x_y, q__mark_x, joinL 32 [[], [], sh n, k_w5, k_mk, k_wx], q__5] ++ badLives.map (fun l => joinL 32 [sh n, l, k_mk, k_wx])).map txD))
  have c1 := cat_e (sh n) q__5 (joinL 32 [sh n, k_w5]) (by omega) (by decide) rfl
  have c2 := cat_e (sh n) q__5_mark (joinL 32 [sh n, k_w5, k_mk]) (by omega) (by decide) rfl
  have c3 := cat_e (sh n) q__5_mark_x_y (joinL 32 [sh n, k_w5, k_mk, k_wx, k_wy]) (by omega) (by decide) rfl
  have c4 := cat_e (sh n) q__5_mark_x_y_z (joinL 32 [sh n, k_w5, k_mk, k_wx, k_wy, k_wz]) (by omega) (by decide) rfl
  have c5 := cat_e (sh n) q__5_mark__x_y (joinL 32 [sh n, k_w5, k_mk, [], k_wx, k_wy]) (by omega) (by decide) rfl
  have c6 := cat_ok q___ (sh n) (by decide) (by omega)
  have c6b := cat_e (q___ ++ sh n) q__5_mark_x (joinL 32 [[], [], sh n, k_w5, k_mk, k_wx]) (by simp [q___]; omega) (by decide) rfl
  have c7 := cat_ok (sh n) q__5_mark_ (by omega) (by decide)
  have c7b := cat_e (sh n ++ q__5_mark_) k_x41 (joinL 32 [sh n, k_w5, k_mk, k_x41]) (by simp [q__5_mark_]; omega) (by decide) (by rw [List.append_assoc]; rfl)
  have c8 := cat_e (sh n) q__5_down_x_y (joinL 32 [sh n, k_w5, k_dn, k_wx, k_wy]) (by omega) (by decide) rfl
  have c9 := cat_e (sh n) q__5_else (joinL 32 [sh n, k_w5, k_el]) (by omega) (by decide) rfl
  have g1 := lst_add [sh n, joinL 32 [sh n, k_w5], joinL 32 [sh n, k_w5, k_mk], joinL 32 [sh n, k_w5, k_mk, k_wx, k_wy], joinL 32 [sh n, k_w5, k_mk, k_wx, k_wy, k_wz], joinL 32 [sh n, k_w5, k_mk, [], k_wx, k_wy]] [q_zone_p_5, q__5_mark, q__5_mark_x_y, q__mark_x, joinL 32 [[], [], sh n, k_w5, k_mk, k_wx], q__5] (by simp)
  have g2 := lst_add ([sh n, joinL 32 [sh n, k_w5], joinL 32 [sh n, k_w5, k_mk], joinL 32 [sh n, k_w5, k_mk, k_wx, k_wy], joinL 32 [sh n, k_w5, k_mk, k_wx, k_wy, k_wz], joinL 32 [sh n, k_w5, k_mk, [], k_wx, k_wy]] ++ [q_zone_p_5, q__5_mark, q__5_mark_x_y, q__mark_x, joinL 32 [[], [], sh n, k_w5, k_mk, k_wx], q__5]) (badLives.map fun l => joinL 32 [sh n, l, k_mk, k_wx]) (by simp [badLives])
  have g3 := lst_add ([sh n, joinL 32 [sh n, k_w5], joinL 32 [sh n, k_w5, k_mk], joinL 32 [sh n, k_w5, k_mk, k_wx, k_wy], joinL 32 [sh n, k_w5, k_mk, k_wx, k_wy, k_wz], joinL 32 [sh n, k_w5, k_mk, [], k_wx, k_wy]] ++ [q_zone_p_5, q__5_mark, q__5_mark_x_y, q__mark_x, joinL 32 [[], [], sh n, k_w5, k_mk, k_wx], q__5] ++ badLives.map (fun l => joinL 32 [sh n, l, k_mk, k_wx])) (badKinds.map fun l => joinL 32 [sh n, k_w5, l, k_wx]) (by simp [badLives, badKinds])
  have g4 := lst_add ([sh n, joinL 32 [sh n, k_w5], joinL 32 [sh n, k_w5, k_mk], joinL 32 [sh n, k_w5, k_mk, k_wx, k_wy], joinL 32 [sh n, k_w5, k_mk, k_wx, k_wy, k_wz], joinL 32 [sh n, k_w5, k_mk, [], k_wx, k_wy]] ++ [q_zone_p_5, q__5_mark, q__5_mark_x_y, q__mark_x, joinL 32 [[], [], sh n, k_w5, k_mk, k_wx], q__5] ++ badLives.map (fun l => joinL 32 [sh n, l, k_mk, k_wx]) ++ badKinds.map (fun l => joinL 32 [sh n, k_w5, l, k_wx])) [joinL 32 [sh n, k_w5, k_mk, k_x41], joinL 32 [sh n, k_w5, k_dn, k_wx, k_wy], joinL 32 [sh n, k_w5, k_el]] (by simp [badLives, badKinds])
  have g5 := lst_add ([sh n, joinL 32 [sh n, k_w5], joinL 32 [sh n, k_w5, k_mk], joinL 32 [sh n, k_w5, k_mk, k_wx, k_wy], joinL 32 [sh n, k_w5, k_mk, k_wx, k_wy, k_wz], joinL 32 [sh n, k_w5, k_mk, [], k_wx, k_wy]] ++ [q_zone_p_5, q__5_mark, q__5_mark_x_y, q__mark_x, joinL 32 [[], [], sh n, k_w5, k_mk, k_wx], q__5] ++ badLives.map (fun l => joinL 32 [sh n, l, k_mk, k_wx]) ++ badKinds.map (fun l => joinL 32 [sh n, k_w5, l, k_wx]) ++ [joinL 32 [sh n, k_w5, k_mk, k_x41], joinL 32 [sh n, k_w5, k_dn, k_wx, k_wy], joinL 32 [sh n, k_w5, k_el]]) [q___sc_a_remark, q__sc, q__sc_x_y] (by simp [badLives, badKinds])
  have g5' : _ = (Res.ok (PyData.list ((rowsL (sh n)).map txD)) : Res Dat) := g5
  clear g5
  have l1 : ([sh n, joinL 32 [sh n, k_w5], joinL 32 [sh n, k_w5, k_mk], joinL 32 [sh n, k_w5, k_mk, k_wx, k_wy], joinL 32 [sh n, k_w5, k_mk, k_wx, k_wy, k_wz], joinL 32 [sh n, k_w5, k_mk, [], k_wx, k_wy]].map txD) = [.str (tx (sh n)), .str (tx (joinL 32 [sh n, k_w5])), .str (tx (joinL 32 [sh n, k_w5, k_mk])), .str (tx (joinL 32 [sh n, k_w5, k_mk, k_wx, k_wy])), .str (tx (joinL 32 [sh n, k_w5, k_mk, k_wx, k_wy, k_wz])), .str (tx (joinL 32 [sh n, k_w5, k_mk, [], k_wx, k_wy]))] := rfl
  have l2 : ([q_zone_p_5, q__5_mark, q__5_mark_x_y, q__mark_x, joinL 32 [[], [], sh n, k_w5, k_mk, k_wx], q__5].map txD) = [.str (tx q_zone_p_5), .str (tx q__5_mark), .str (tx q__5_mark_x_y), .str (tx q__mark_x), .str (tx (joinL 32 [[], [], sh n, k_w5, k_mk, k_wx])), .str (tx q__5)] := rfl
  have l3 : ([joinL 32 [sh n, k_w5, k_mk, k_x41], joinL 32 [sh n, k_w5, k_dn, k_wx, k_wy], joinL 32 [sh n, k_w5, k_el]].map txD) = [.str (tx (joinL 32 [sh n, k_w5, k_mk, k_x41])), .str (tx (joinL 32 [sh n, k_w5, k_dn, k_wx, k_wy])), .str (tx (joinL 32 [sh n, k_w5, k_el]))] := rfl
  have l4 : ([q___sc_a_remark, q__sc, q__sc_x_y].map txD) = [.str (tx q___sc_a_remark), .str (tx q__sc), .str (tx q__sc_x_y)] := rfl
  rw [l1, l2] at g1
  rw [l3] at g4
  rw [l4] at g5'
  have hqq : ixD (.list ((rowsL (sh n)).map txD)) (.int (c % 33)) = .ok (.str (tx l)) := hq
  clear hq l1 l2 l3 l4
  generalize ([sh n, joinL 32 [sh n, k_w5], joinL 32 [sh n, k_w5, k_mk], joinL 32 [sh n, k_w5, k_mk, k_wx, k_wy], joinL 32 [sh n, k_w5, k_mk, k_wx, k_wy, k_wz], joinL 32 [sh n, k_w5, k_mk, [], k_wx, k_wy]] ++ [q_zone_p_5, q__5_mark, q__5_mark_x_y, q__mark_x, joinL 32 [[], [], sh n, k_w5, k_mk, k_wx], q__5] ++ badLives.map (fun l => joinL 32 [sh n, l, k_mk, k_wx]) ++ badKinds.map (fun l => joinL 32 [sh n, k_w5, l, k_wx]) ++ [joinL 32 [sh n, k_w5, k_mk, k_x41], joinL 32 [sh n, k_w5, k_dn, k_wx, k_wy], joinL 32 [sh n, k_w5, k_el]]).map txD = D5 at *
  generalize ([sh n, joinL 32 [sh n, k_w5], joinL 32 [sh n, k_w5, k_mk], joinL 32 [sh n, k_w5, k_mk, k_wx, k_wy], joinL 32 [sh n, k_w5, k_mk, k_wx, k_wy, k_wz], joinL 32 [sh n, k_w5, k_mk, [], k_wx, k_wy]] ++ [q_zone_p_5, q__5_mark, q__5_mark_x_y, q__mark_x, joinL 32 [[], [], sh n, k_w5, k_mk, k_wx], q__5] ++ badLives.map (fun l => joinL 32 [sh n, l, k_mk, k_wx]) ++ badKinds.map (fun l => joinL 32 [sh n, k_w5, l, k_wx])).map txD = D4 at *
  generalize ([sh n, joinL 32 [sh n, k_w5], joinL 32 [sh n, k_w5, k_mk], joinL 32 [sh n, k_w5, k_mk, k_wx, k_wy], joinL 32 [sh n, k_w5, k_mk, k_wx, k_wy, k_wz], joinL 32 [sh n, k_w5, k_mk, [], k_wx, k_wy]] ++ [q_zone_p_5, q__5_mark, q__5_mark_x_y, q__mark_x, joinL 32 [[], [], sh n, k_w5, k_mk, k_wx], q__5] ++ badLives.map (fun l => joinL 32 [sh n, l, k_mk, k_wx])).map txD = D3 at *
  generalize ([sh n, joinL 32 [sh n, k_w5], joinL 32 [sh n, k_w5, k_mk], joinL 32 [sh n, k_w5, k_mk, k_wx, k_wy], joinL 32 [sh n, k_w5, k_mk, k_wx, k_wy, k_wz], joinL 32 [sh n, k_w5, k_mk, [], k_wx, k_wy]] ++ [q_zone_p_5, q__5_mark, q__5_mark_x_y, q__mark_x, joinL 32 [[], [], sh n, k_w5, k_mk, k_wx], q__5]).map txD = D2 at *
  generalize (badLives.map fun l => joinL 32 [sh n, l, k_mk, k_wx]).map txD = DL at *
  generalize (badKinds.map fun l => joinL 32 [sh n, k_w5, l, k_wx]).map txD = DK at *
  generalize (rowsL (sh n)).map txD = DR at *
  generalize joinL 32 [sh n, k_w5] = z1 at *
  generalize joinL 32 [sh n, k_w5, k_mk] = z2 at *
  generalize joinL 32 [sh n, k_w5, k_mk, k_wx, k_wy] = z3 at *
  generalize joinL 32 [sh n, k_w5, k_mk, k_wx, k_wy, k_wz] = z4 at *
  generalize joinL 32 [sh n, k_w5, k_mk, [], k_wx, k_wy] = z5 at *
  generalize joinL 32 [[], [], sh n, k_w5, k_mk, k_wx] = z6 at *
  generalize joinL 32 [sh n, k_w5, k_mk, k_x41] = z7 at *
  generalize joinL 32 [sh n, k_w5, k_dn, k_wx, k_wy] = z8 at *
  generalize joinL 32 [sh n, k_w5, k_el] = z9 at *
  generalize q___ ++ sh n = y1 at *
  generalize sh n ++ q__5_mark_ = y2 at *
  simp [-ixD, f_l_bad_rows, b_l_bad_rows, q__5_s, q__5_mark_s, q__5_mark_x_y_s, q__5_mark_x_y_z_s, q__5_mark__x_y_s, q_zone_p_5_s, q__mark_x_s, q____s, q__5_mark_x_s, q__5_mark__s, q__5_down_x_y_s, q__5_else_s, q___sc_a_remark_s, q__sc_s, q__sc_x_y_s, x41_s, c1, c2, c3, c4, c5, c6, c6b, c7, c7b, c8, c9, g1, e0, g2, e1, g3, g4, g5', d1, hqq]
theorem r_outside (W : List Str) (hW : W.length = 4) (gW : ∀ w ∈ W, GoodW w) (dW : ∃ u ∈ W, ∃ v ∈ W, u ≠ v) (T : List Str) (hT3 : T.length ≤ 3) (hT : T.all isWordS = true) (hne : T ≠ []) (c : Int) : ∃ l : List Nat, f_l_outside [.list (W.map .str), nm T, .int c] = .ok (.str (tx l)) ∧ ∀ Rs, Dbl T Rs (l, "outside") := by
  obtain ⟨w, hw⟩ : ∃ w, T.getLast? = some w := ⟨_, List.getLast?_eq_some_getLast hne⟩
  have hTe : T.dropLast ++ [w] = T := by
    have h := List.dropLast_concat_getLast hne
    rw [List.getLast?_eq_some_getLast hne] at hw
    cases hw
    exact h
  have hwT : isWordS w = true := List.all_eq_true.mp hT w (by rw [← hTe]; simp)
  have i1 : ixD (nm T) (.int (-1)) = .ok (.str w) := ix_last (T.map PyData.str) _ (by rw [List.getLast?_map, hw]; rfl)
  have s1 : slD (nm T) none (some (-1)) = .ok (nm T.dropLast) := by
    have := sl_dropLastT (T.map PyData.str)
    rw [← List.map_dropLast] at this
    exact this
  have s2 : slD (nm T) (some 1) none = .ok (nm (T.drop 1)) := by
    have e : cutL (T.map PyData.str) (some 1) none = (T.drop 1).map PyData.str := by
      rw [List.map_drop]
      exact cut_from (T.map PyData.str) 1
    show slD (.tuple (T.map PyData.str)) (some 1) none = _
    simp only [slD, e, nm]
  have hD : T.dropLast.all isWordS = true := by
    rw [← hTe, List.all_append] at hT
    exact (Bool.and_eq_true _ _ ▸ hT).1
  have hDl : T.dropLast.length + 1 = T.length := by rw [← hTe]; simp
  obtain ⟨u, hu, hun⟩ : ∃ u ∈ W, u ≠ w := by
    obtain ⟨u, hu, v, hv, huv⟩ := dW
    by_cases h : u = w
    · exact ⟨v, hv, fun e => huv (h.trans e.symm)⟩
    · exact ⟨u, hu, h⟩
  have hW2 : binD .add (.list (W.map .str)) (.list [.str (Str.ofString "zz")]) = .ok (.list ((W ++ [Str.ofString "zz"]).map .str)) := by
    rw [bin_lst _ _ (by simp; omega), List.map_append]
    rfl
  have he : ev Q_l_outside e0_l_outside [.fz (.list (W.map .str)), .fz (nm T), .fz (.int c), .un, .un, .un, .un] = .ok (.list (((W ++ [Str.ofString "zz"]).filter fun x => !decide (x = w)).map .str)) := by
    refine lc_filter PyData.str PyData.str (fun x => !decide (x = w)) (W ++ [Str.ofString "zz"]) ?_ (by simp; omega) fun x hx => ⟨_, rfl, ?_, fun _ => ?_⟩
    · simp [hW2]
    · show tR _ = _
      simp [-ixD, i1]
    · simp
  obtain ⟨O, hO⟩ : ∃ O, (W ++ [Str.ofString "zz"]).filter (fun x => !decide (x = w)) = O := ⟨_, rfl⟩
  have hOn : O ≠ [] := fun e => by
    have : u ∈ O := by
      rw [← hO]
      exact List.mem_filter.mpr ⟨List.mem_append_left _ hu, by simp [hun]⟩
    rw [e] at this
    cases this
  have hOw : ∀ x ∈ O, isWordS x = true := fun x hx => by
    rw [← hO] at hx
    rcases List.mem_append.mp (List.mem_filter.mp hx).1 with h | h
    · exact word_ok x (gW x h)
    · rw [List.mem_singleton] at h
      subst h
      decide +kernel
  rw [hO] at he
  have hOl : 0 < O.length := List.length_pos_iff.mpr hOn
  have d1 : binD .div (.int c) (.int 5) = .ok (.int (c / 5)) := bin_div _ _ (by omega) (by omega)
  have d2 : binD .mod (.int (c / 5)) (.int (O.length : Int)) = .ok (.int (c / 5 % (O.length : Int))) := bin_mod _ _ (by omega)
  have d3 : binD .mod (.int c) (.int 5) = .ok (.int (c % 5)) := bin_mod _ _ (by omega)
  have d4 : biD .len [.list (O.map .str)] = .ok (.int O.length) := by simp only [biD, List.length_map]
  have d5 : biD .len [nm T] = .ok (.int T.length) := by simp only [biD, nm, List.length_map]
  obtain ⟨o, ho, hoi⟩ := at_any PyData.str O (c / 5 % (O.length : Int)) (Int.emod_nonneg _ (by omega)) (Int.emod_lt_of_pos _ (by omega))
  have t1 := tup_add T.dropLast (Str.ofString "*") (by omega)
  have t2 := tup_add T.dropLast o (by omega)
  have t3 := tup_add (T.drop 1) (Str.ofString "yy") (by simp; omega)
  obtain ⟨n, hn, hq⟩ := at_any nm [[], T.dropLast, T.dropLast ++ [Str.ofString "*"], T.dropLast ++ [o], T.drop 1 ++ [Str.ofString "yy"]] (c % 5) (by omega) (by simp; omega)
  simp only [List.map_cons, List.map_nil] at hq
  have hD1 : (T.drop 1).all isWordS = true := by
    rw [List.all_eq_true] at hT ⊢
    exact fun x hx => hT x (List.mem_of_mem_drop hx)
  have gn : NmOk n := by
    simp only [List.mem_cons, List.not_mem_nil, or_false] at hn
    rcases hn with rfl | rfl | rfl | rfl | rfl
    · exact NmOk.all _ rfl (by simp)
    · exact NmOk.all _ hD (by omega)
    · exact ⟨T.dropLast, hD, by omega, .inr rfl⟩
    · exact NmOk.all _ (by rw [List.all_append, hD]; simp [hOw o ho]) (by simp; omega)
    · have : isWordS (Str.ofString "yy") = true := by decide +kernel
      exact NmOk.all _ (by rw [List.all_append, hD1]; simp [this]) (by simp; omega)
  have s3 : slD (nm n) none (some (T.length : Int)) = .ok (nm (n.take T.length)) := by
    show slD (.tuple (n.map PyData.str)) none (some (T.length : Int)) = _
    simp only [slD, cut_to, ← List.map_take, nm]
  have cm := cmp_nm (n.take T.length) T
  have e0 : (.tuple [] : Dat) = nm [] := rfl
  have l9 : T.length ≤ 9 := by omega
  have fin : ∀ m : List Str, NmOk m → m.take T.length ≠ T → f_l_name_text [nm m] = .ok (.str (tx (sh m))) ∧ binD .add (.str (tx (sh m))) (.str (tx q__5_mark_x)) = .ok (.str (tx (joinL 32 [sh m, k_w5, k_mk, k_wx]))) ∧ ∀ Rs, Dbl T Rs (joinL 32 [sh m, k_w5, k_mk, k_wx], "outside") := fun m hm hp => by
    have n1 := r_name_text m (good_nm hm)
    rw [shown_sh] at n1
    have ml := hm.slen2
    have f : LOk (joinL 32 [sh m, k_w5, k_mk, k_wx]) false _ := lok_f _ (by simp) (by simp) (by simp [sh_gwd hm]; decide) (by intro w h; cases h; exact sh_59 hm)
    exact ⟨n1, cat_e (sh m) q__5_mark_x _ (by omega) (by decide) rfl, fun Rs => f.dbl (C := "Outside") (by decide +kernel) (out_name hT l9 f hm hp)⟩
  generalize (W ++ [Str.ofString "zz"]).map PyData.str = WZ at *
  generalize hOm : O.map PyData.str = OM at *
  generalize W.map PyData.str = WM at *
  generalize c / 5 % (O.length : Int) = ci at *
  generalize (O.length : Int) = ol at *
  by_cases h : n.take T.length = T
  · rw [decide_eq_true h] at cm
    obtain ⟨f1, f2, f3⟩ := fin [] (NmOk.all _ rfl (by simp)) (fun e => hne (by rw [← e]; simp))
    refine ⟨_, ?_, f3⟩
    generalize joinL 32 [sh [], k_w5, k_mk, k_wx] = z at *
    generalize T.dropLast ++ [Str.ofString "*"] = A2 at *
    generalize T.dropLast ++ [o] = A3 at *
    generalize T.drop 1 ++ [Str.ofString "yy"] = A4 at *
    generalize T.dropLast = A1 at *
    generalize T.drop 1 = A5 at *
    generalize (T.length : Int) = tl at *
    simp [-ixD, -slD, -biD, f_l_outside, b_l_outside, he, s1, s2, s3, d1, d2, d3, d4, d5, hoi, t1, t2, t3, e0, hq, cm, f1, q__5_mark_x_s, f2]
  · rw [decide_eq_false h] at cm
    obtain ⟨f1, f2, f3⟩ := fin n gn h
    refine ⟨_, ?_, f3⟩
    generalize joinL 32 [sh n, k_w5, k_mk, k_wx] = z at *
    generalize T.dropLast ++ [Str.ofString "*"] = A2 at *
    generalize T.dropLast ++ [o] = A3 at *
    generalize T.drop 1 ++ [Str.ofString "yy"] = A4 at *
    generalize T.dropLast = A1 at *
    generalize T.drop 1 = A5 at *
    generalize (T.length : Int) = tl at *
    simp [-ixD, -slD, -biD, f_l_outside, b_l_outside, he, s1, s2, s3, d1, d2, d3, d4, d5, hoi, t1, t2, t3, e0, hq, cm, f1, q__5_mark_x_s, f2]
/-- a row that does not go with those ahead -/
theorem line_clash {T : List Str} (hT : T.all isWordS = true) (hl : T.length ≤ 9) (Rs : List Row) (r : Row) (h : LRow T r) (hc : (Rs.any fun x => clashB x r) = true) : Dbl T Rs (lineL r, "clash") := by
  obtain ⟨n, e1, e2⟩ := h.life
  have en : lifeN r = n := by unfold lifeN; omega
  have hk := kind_sign _ h.knd
  have hT2 : ∀ w ∈ T, w.length ≤ 1000 := (top_le hT hl).2
  have h32 : (lineL r).head? ≠ some 32 := by
    unfold lineL
    rw [head_of_join 32 _ _ (sh_ne _)]
    exact fun q => (sh_head h.nm 32 q).1 rfl
  refine ⟨line_no10 h, (by have := line_len h; show (lineL r).length ≤ 12000; omega), line_pass h, Str.ofString "Clash", (by decide +kernel : (Str.ofString "clash", Str.ofString "Clash") ∈ ways), ?_⟩
  refine rf_row_clash (R := r) (b := numL (lifeN r)) (c := r.kind.cps.toList) (d := valL r) (fun k => ?_) (by rw [en]; have := num_len9 n e2; omega) (i := n) (by rw [en]; exact life_num n e2) e1 (by omega) h.knd (tx_of _).symm (fun k => ?_) h.cut (fun hd he => ?_) hc
  · exact r_parts (lineL r) (sh r.nm) (numL (lifeN r)) r.kind.cps.toList (valL r) (by have := line_len h; omega) (line_words h) h32 (fun c hc => (sh_sign h.nm c hc).2.2.2.1) (by have := h.nm.slen; omega) T (by omega) hT2 r.nm (read_nm h.nm T) h.pre Rs k
  · have ek : tx r.kind.cps.toList = r.kind := tx_of _
    rw [ek]
    cases hp : point r.kind with
    | true =>
      obtain ⟨A, a1, a2, a3⟩ := h.vp hp
      have ok := NmOk.all A a2 a3
      have := r_value_p k r.kind hp (sh A) (fun c hc => (sh_sign ok c hc).2.2.2.1) (by have := ok.slen; omega) T (by omega) hT2 A (read_plain A a2 a3 T false)
      unfold valL
      rw [a1]
      exact this
    | false =>
      obtain ⟨l, a1, a2⟩ := h.vs hp
      have := r_value_s k r.kind hp l (by have := (value_sign l a2).2.2; omega) a2 T
      unfold valL
      rw [a1]
      simp only [tx_list]
      exact this
  · have := h.pre
    rw [he] at this
    have hT0 : T = [] := by simpa using this.symm
    exact h.cut ⟨hd, .inl (by rw [he, hT0])⟩
theorem r_clash (T : List Str) (hT : T.all isWordS = true) (l9 : T.length ≤ 9) (Rs : List Row) (hne : Rs ≠ []) (gR : ∀ r ∈ Rs, LRow T r) (c : Int) : ∃ l : List Nat, f_l_clash [.list (Rs.map rowD), .int c] = .ok (.str (tx l)) ∧ Dbl T Rs (l, "clash") := by
  have hl0 : 0 < Rs.length := List.length_pos_iff.mpr hne
  have d1 : binD .div (.int c) (.int 2) = .ok (.int (c / 2)) := bin_div _ _ (by omega) (by omega)
  have d2 : binD .mod (.int (c / 2)) (.int (Rs.length : Int)) = .ok (.int (c / 2 % (Rs.length : Int))) := bin_mod _ _ (by omega)
  have d3 : binD .mod (.int c) (.int 2) = .ok (.int (c % 2)) := bin_mod _ _ (by omega)
  have d4 : biD .len [.list (Rs.map rowD)] = .ok (.int Rs.length) := by simp only [biD, List.length_map]
  have d5 : binD .mod (.int c) (.int 1000) = .ok (.int (c % 1000)) := bin_mod _ _ (by omega)
  obtain ⟨r, hr, hq⟩ := at_any rowD Rs (c / 2 % (Rs.length : Int)) (Int.emod_nonneg _ (by omega)) (Int.emod_lt_of_pos _ (by omega))
  have g := gR r hr
  have r0 := row_0 r
  have r2 := row_2 r
  have r3 := row_3 r
  by_cases h : c % 2 = 0
  · have g' : LRow T ⟨r.nm, c % 1000, r.kind, r.val⟩ := ⟨g.nm, g.pre, ⟨(c % 1000).toNat, by show c % 1000 = _; omega, by omega⟩, g.knd, g.vp, g.vs, g.cut⟩
    have cl := line_clash hT l9 Rs _ g' (by
      rw [List.any_eq_true]
      exact ⟨r, hr, by simp [clashB]⟩)
    have ln := r_line g'
    have er : rowD ⟨r.nm, c % 1000, r.kind, r.val⟩ = .tuple [nm r.nm, .int (c % 1000), .str r.kind, valD r.val] := rfl
    rw [er] at ln
    refine ⟨_, ?_, cl⟩
    clear cl er g'
    generalize lineL ⟨r.nm, c % 1000, r.kind, r.val⟩ = z at *
    generalize rowD r = rd at *
    generalize valD r.val = vd at *
    generalize Rs.map rowD = RD at *
    generalize c / 2 % (Rs.length : Int) = ci at *
    generalize c % 1000 = ck at *
    simp [-ixD, -biD, f_l_clash, b_l_clash, d1, d2, d3, d4, d5, hq, r0, r2, r3, h, ln]
  · have ha : isWordS (tx [97]) = true := by decide +kernel
    have g' : LRow T ⟨r.nm, 5, Str.ofString "else", .n [tx [97]]⟩ := ⟨g.nm, g.pre, ⟨5, rfl, by decide⟩, (by decide +kernel : kindB (Str.ofString "else").cps.toList = true), fun _ => ⟨[tx [97]], rfl, by simp [ha], by simp⟩, (fun hh => by
      have q : point (Str.ofString "else") = true := by decide +kernel
      have hh' : point (Str.ofString "else") = false := hh
      rw [q] at hh'
      exact absurd hh' (by decide)), (fun hh => by
      have hh' : Str.ofString "else" = Str.ofString "down" := hh.1
      revert hh'
      decide +kernel)⟩
    have cl := line_clash hT l9 Rs _ g' (by
      rw [List.any_eq_true]
      exact ⟨r, hr, by simp [clashB]⟩)
    have n1 := r_name_text r.nm (good_nm g.nm)
    rw [shown_sh] at n1
    have nl := g.nm.slen2
    have el : lineL ⟨r.nm, 5, Str.ofString "else", .n [tx [97]]⟩ = joinL 32 [sh r.nm, k_w5, k_el, k_wa] := by
      have z1 : numL (lifeN ⟨r.nm, 5, Str.ofString "else", .n [tx [97]]⟩) = k_w5 := by
        show numL 5 = k_w5
        decide +kernel
      have z2 : (Str.ofString "else").cps.toList = k_el := by decide +kernel
      have z3 : sh [tx [97]] = k_wa := by decide +kernel
      unfold lineL
      rw [z1]
      show joinL 32 [sh r.nm, k_w5, (Str.ofString "else").cps.toList, sh [tx [97]]] = _
      rw [z2, z3]
    rw [el] at cl
    have c1 := cat_e (sh r.nm) q__5_else_ap (joinL 32 [sh r.nm, k_w5, k_el, k_wa]) (by omega) (by decide) rfl
    refine ⟨_, ?_, cl⟩
    clear cl el g'
    generalize joinL 32 [sh r.nm, k_w5, k_el, k_wa] = z at *
    generalize rowD r = rd at *
    generalize Rs.map rowD = RD at *
    generalize c / 2 % (Rs.length : Int) = ci at *
    simp [-ixD, -biD, f_l_clash, b_l_clash, d1, d2, d3, d4, hq, r0, h, n1, q__5_else_ap_s, c1]
theorem cut_dot {T : List Str} {Rs : List Row} {l b : List Nat} {n : List Str} (hT : T.all isWordS = true) (hl : T.length ≤ 9) (hp : Parts T Rs l n [b, k_dn, k_dot]) (hbl : b.length ≤ 1000000) {i : Nat} (hb : lifeO b = some i) (hcut : n = T ∨ n.getLast? = some (Str.ofString "*")) : Ref T Rs l "BadCut" := by
  have hr : readO (k_dot.map lowN) T false = some [] := by
    unfold readO
    have e : beneathL (k_dot.map lowN) T = [] := by
      unfold beneathL
      rw [if_neg (by decide +kernel), if_pos (by decide +kernel)]
    rw [e, if_pos (by decide +kernel)]
  exact rf_row_cut hp hbl hb (by decide +kernel) (by decide +kernel) (fun k => r_value_p k (tx k_dn) (by decide +kernel) k_dot (by decide +kernel) (by decide +kernel) T (top_le hT hl).1 (top_le hT hl).2 _ hr) (by decide +kernel) hcut
/-- texts that are no values that point -/
structure BadV (b : List Nat) : Prop where
  g : GWd b
  asc : ∀ c ∈ b, c < 128
  no : ∀ T : List Str, readO (b.map lowN) T false = none
theorem BadN.v {b : List Nat} (h : BadN b) : BadV b := ⟨h.g, h.asc, fun T => h.no T false⟩
theorem bad_stpap : BadV q_stpap := ⟨by decide +kernel, by decide +kernel, fun T => by
  have e : q_stpap.map lowN = q_stpap := by decide +kernel
  rw [e]
  unfold readO
  have e2 : beneathL q_stpap T = [tx [97], tx [42]] := by
    unfold beneathL
    rw [if_neg (by decide +kernel), if_neg (by decide +kernel), if_pos (by decide +kernel)]
    decide +kernel
  rw [e2, if_neg (by decide +kernel)]⟩
theorem no_valueV {T : List Str} {Rs : List Row} {l b c d : List Nat} {n : List Str} (hT : T.all isWordS = true) (hl : T.length ≤ 9) (hp : Parts T Rs l n [b, c, d]) (hbl : b.length ≤ 1000000) {i : Nat} (hb : lifeO b = some i) (hcl : c.length ≤ 1000000) (hc : kindB c = true) (hq : point (tx c) = true) (hd : BadV d) : Ref T Rs l "BadName" :=
  rf_row_value hp hbl hb hcl hc fun k => rf_value_p k (tx c) hq d hd.asc (by have := hd.g.2.2; omega) T (top_le hT hl).1 (top_le hT hl).2 (hd.no T)
theorem tup_add2 (a : List Str) (w v : Str) (h : a.length ≤ 100) : binD .add (nm a) (.tuple [.str w, .str v]) = .ok (nm (a ++ [w, v])) := by
  simp only [nm]
  rw [bin_tup _ _ (by simp; omega)]
  simp
theorem r_wrong (W : List Str) (hW : W.length = 4) (gW : ∀ w ∈ W, GoodW w) (dW : ∃ u ∈ W, ∃ v ∈ W, u ≠ v) (T : List Str) (hT3 : T.length ≤ 3) (hT : T.all isWordS = true) (Rs : List Row) (gR : ∀ r ∈ Rs, LRow T r) (c : Int) : ∃ p : List Nat × Str, f_l_wrong [.list (W.map .str), nm T, .list (Rs.map rowD), .int c] = .ok (dblD p) ∧ Dbl T Rs p := by
  have l9 : T.length ≤ 9 := by omega
  have d1 : binD .div (.int c) (.int 5) = .ok (.int (c / 5)) := bin_div _ _ (by omega) (by omega)
  have d2 : binD .mod (.int (c / 5)) (.int 4) = .ok (.int (c / 5 % 4)) := bin_mod _ _ (by omega)
  have d3 : binD .mod (.int c) (.int 5) = .ok (.int (c % 5)) := bin_mod _ _ (by omega)
  have d4 : binD .div (.int c) (.int 20) = .ok (.int (c / 20)) := bin_div _ _ (by omega) (by omega)
  have d5 : binD .mod (.int (c / 20)) (.int 3) = .ok (.int (c / 20 % 3)) := bin_mod _ _ (by omega)
  have d6 : binD .div (.int (c / 20)) (.int 3) = .ok (.int (c / 20 / 3)) := bin_div _ _ (by omega) (by omega)
  have d7 : binD .mod (.int (c / 20 / 3)) (.int 2) = .ok (.int (c / 20 / 3 % 2)) := bin_mod _ _ (by omega)
  have d8 : binD .mod (.int (c / 20 / 3)) (.int 5) = .ok (.int (c / 20 / 3 % 5)) := bin_mod _ _ (by omega)
  have d9 : binD .div (.int (c / 20 / 3 % 5)) (.int 4) = .ok (.int (c / 20 / 3 % 5 / 4)) := bin_div _ _ (by omega) (by omega)
  obtain ⟨w, hw, hq⟩ := at_any PyData.str W (c / 5 % 4) (by omega) (by rw [hW]; omega)
  obtain ⟨w0, hw0, i0⟩ := at_any PyData.str W 0 (by omega) (by rw [hW]; omega)
  obtain ⟨w1, hw1, i1⟩ := at_any PyData.str W 1 (by omega) (by rw [hW]; omega)
  obtain ⟨w2, hw2, i2⟩ := at_any PyData.str W 2 (by omega) (by rw [hW]; omega)
  have tw := tup_add T w (by omega)
  have ts := tup_add T (Str.ofString "*") (by omega)
  have t1 := tup_add T w1 (by omega)
  have t2 := tup_add2 T w0 (Str.ofString "*") (by omega)
  have one : ∀ v ∈ W, (T ++ [v]).all isWordS = true := fun v hv => by rw [List.all_append, hT, all_of gW (N := [v]) (by simpa using hv)]; rfl
  have okN : NmOk (T ++ [w]) := NmOk.all _ (one w hw) (by simp; omega)
  have ok1 : NmOk (T ++ [w1]) := NmOk.all _ (one w1 hw1) (by simp; omega)
  have ok2 : NmOk [w2] := NmOk.all _ (all_of gW (N := [w2]) (by simpa using hw2)) (by simp)
  have okT := NmOk.all T hT (by omega)
  have okS : NmOk (T ++ [Str.ofString "*"]) := ⟨T, hT, by omega, .inr rfl⟩
  have okS2 : NmOk (T ++ [w0, Str.ofString "*"]) := ⟨T ++ [w0], one w0 hw0, by simp; omega, .inr (by simp)⟩
  have n1 := r_name_text (T ++ [w]) (good_nm okN)
  rw [shown_sh] at n1
  have pN : (T ++ [w]).take T.length = T := take_app T _
  have nl := okN.slen2
  have cn : cmpD .ne (nm T) (.tuple []) = .ok (!decide (T = [])) := encN.ne (by decide) T []
  have ce : cmpD .eq (.list (Rs.map rowD)) (.list []) = .ok (decide (Rs = [])) := encR.lst.eq (by decide) Rs []
  have n2e : nm [w2] = .tuple [.str w2] := rfl
  by_cases h0 : c % 5 = 0
  · by_cases hz : Rs = []
    · rw [decide_eq_true hz] at ce
      have f : LOk (32 :: joinL 32 [k_w5, k_mk, k_wx]) true _ := lok_t [k_w5, k_mk, k_wx] (by simp) (by simp) (by decide +kernel)
      have s : Str.ofString " 5 mark x" = tx (32 :: joinL 32 [k_w5, k_mk, k_wx]) := q__5_mark_x_s
      refine ⟨(32 :: joinL 32 [k_w5, k_mk, k_wx], "row"), ?_, f.dbl (C := "BadRow") (by decide +kernel) (few_b f (.inr hz))⟩
      generalize T ++ [w] = N at *
      generalize W.map PyData.str = WM at *
      generalize Rs.map rowD = RD at *
      simp [-ixD, f_l_wrong, b_l_wrong, d1, d2, d3, d4, hq, tw, n1, h0, ce, s, dblD]
    · rw [decide_eq_false hz] at ce
      obtain ⟨l, e1, e2⟩ := r_clash T hT l9 Rs hz gR (c / 20)
      refine ⟨(l, "clash"), ?_, e2⟩
      generalize T ++ [w] = N at *
      generalize W.map PyData.str = WM at *
      generalize Rs.map rowD = RD at *
      simp [-ixD, f_l_wrong, b_l_wrong, d1, d2, d3, d4, hq, tw, n1, h0, ce, e1, dblD]
  · by_cases h1 : c % 5 = 1 ∧ T ≠ []
    · obtain ⟨h1, hTn⟩ := h1
      rw [decide_eq_false hTn] at cn
      obtain ⟨l, e1, e2⟩ := r_outside W hW gW dW T hT3 hT hTn (c / 20)
      refine ⟨(l, "outside"), ?_, e2 Rs⟩
      generalize T ++ [w] = N at *
      generalize W.map PyData.str = WM at *
      generalize Rs.map rowD = RD at *
      simp [-ixD, f_l_wrong, b_l_wrong, d1, d2, d3, d4, hq, tw, n1, h1, cn, e1, dblD]
    · by_cases h2 : c % 5 = 2
      · obtain ⟨n, hn, hqn⟩ := at_any nm [T, T ++ [Str.ofString "*"], T ++ [w0, Str.ofString "*"]] (c / 20 % 3) (by omega) (by simp; omega)
        obtain ⟨d, hd, hqd⟩ := at_any txD [k_dot, k_wa] (c / 20 / 3 % 2) (by omega) (by simp; omega)
        simp only [List.map_cons, List.map_nil] at hqn hqd
        simp only [txD] at hqd
        have hqd' : ixD (.list [.str (tx [46]), .str (tx k_wa)]) (.int (c / 20 / 3 % 2)) = .ok (.str (tx d)) := hqd
        have gn : NmOk n ∧ n.take T.length = T ∧ (n = T ∨ n.getLast? = some (Str.ofString "*")) := by
          simp only [List.mem_cons, List.not_mem_nil, or_false] at hn
          rcases hn with rfl | rfl | rfl
          · exact ⟨okT, List.take_length, .inl rfl⟩
          · exact ⟨okS, take_app T _, .inr (by simp)⟩
          · exact ⟨okS2, take_app T _, .inr (by simp)⟩
        obtain ⟨okn, pn, cutn⟩ := gn
        have n2 := r_name_text n (good_nm okn)
        rw [shown_sh] at n2
        have nl2 := okn.slen2
        have gd : GWd d ∧ d.length ≤ 5 := by
          simp only [List.mem_cons, List.not_mem_nil, or_false] at hd
          rcases hd with rfl | rfl <;> exact ⟨by decide +kernel, by decide⟩
        have c1 := cat_ok (sh n) q__5_down_ (by omega) (by decide)
        have c2 := cat_e (sh n ++ q__5_down_) d (joinL 32 [sh n, k_w5, k_dn, d]) (by simp [q__5_down_]; omega) (by omega) (by rw [List.append_assoc]; rfl)
        have f : LOk (joinL 32 [sh n, k_w5, k_dn, d]) false _ := lok_f _ (by simp) (by simp) (by simp [sh_gwd okn, gd.1]; decide) (by intro w h; cases h; exact sh_59 okn)
        refine ⟨(joinL 32 [sh n, k_w5, k_dn, d], "cut"), ?_, ?_⟩
        · clear f
          generalize joinL 32 [sh n, k_w5, k_dn, d] = z at *
          generalize T ++ [w0, Str.ofString "*"] = A1 at *
          generalize T ++ [Str.ofString "*"] = A2 at *
          generalize T ++ [w] = N at *
          generalize W.map PyData.str = WM at *
          generalize Rs.map rowD = RD at *
          generalize sh n ++ q__5_down_ = y at *
          simp [-ixD, f_l_wrong, b_l_wrong, d1, d2, d3, d4, d5, d6, d7, hq, i0, tw, ts, t2, n1, h2, hqn, n2, q__5_down__s, dot_s, q_ap_s, show q_ap = k_wa from rfl, hqd', c1, c2, dblD]
        · simp only [List.mem_cons, List.not_mem_nil, or_false] at hd
          rcases hd with rfl | rfl
          · exact f.dbl (C := "BadCut") (by decide +kernel) (cut_dot hT l9 (pa_name hT l9 f okn pn) (by decide) five_life cutn)
          · exact f.dbl (C := "BadCut") (by decide +kernel) (cut_here hT l9 (pa_name hT l9 f okn pn) (by decide) five_life cutn)
      · by_cases h3 : c % 5 = 3
        · by_cases h4 : c / 20 % 3 = 0
          · obtain ⟨b, e1, gb, bl⟩ := r_bad_name (T ++ [w1]) ok1 (by simp) (c / 20 / 3)
            have c1 := cat_e b q__5_mark_x (joinL 32 [b, k_w5, k_mk, k_wx]) (by omega) (by decide) rfl
            have f : LOk (joinL 32 [b, k_w5, k_mk, k_wx]) false _ := lok_f _ (by simp) (by simp) (by simp [gb.g]; decide) (by intro w h; cases h; exact gb.h59)
            refine ⟨(joinL 32 [b, k_w5, k_mk, k_wx], "name"), ?_, f.dbl (C := "BadName") (by decide +kernel) (no_name hT l9 f gb)⟩
            clear f
            generalize joinL 32 [b, k_w5, k_mk, k_wx] = z at *
            generalize T ++ [w1] = N1 at *
            generalize T ++ [w] = N at *
            generalize W.map PyData.str = WM at *
            generalize Rs.map rowD = RD at *
            simp [-ixD, f_l_wrong, b_l_wrong, d1, d2, d3, d4, d5, d6, hq, i1, tw, t1, n1, h3, h4, e1, q__5_mark_x_s, c1, dblD]
          · obtain ⟨b0, e1, gb0, bl0⟩ := r_bad_name [w2] ok2 (by simp) (c / 20 / 3)
            obtain ⟨b, hb, hqb⟩ := at_any txD [b0, q_stpap] (c / 20 / 3 % 5 / 4) (by omega) (by simp; omega)
            obtain ⟨k, hk, hqk⟩ := at_any txD [q_else_, q_down_] (c / 20 % 3 - 1) (by omega) (by simp; omega)
            simp only [List.map_cons, List.map_nil] at hqb hqk
            simp only [txD] at hqb hqk
            rw [n2e] at e1
            have gb : BadV b ∧ b.length ≤ 200 := by
              simp only [List.mem_cons, List.not_mem_nil, or_false] at hb
              rcases hb with rfl | rfl
              · exact ⟨gb0.v, bl0⟩
              · exact ⟨bad_stpap, by decide⟩
            obtain ⟨gb, bl⟩ := gb
            obtain ⟨kd, gk, k1, k2, k3, k4⟩ : ∃ kd : List Nat, GWd kd ∧ k = kd ++ [32] ∧ kindB kd = true ∧ point (tx kd) = true ∧ kd.length ≤ 10 := by
              simp only [List.mem_cons, List.not_mem_nil, or_false] at hk
              rcases hk with rfl | rfl
              · exact ⟨k_el, by decide +kernel, rfl, by decide +kernel, by decide +kernel, by decide⟩
              · exact ⟨k_dn, by decide +kernel, rfl, by decide +kernel, by decide +kernel, by decide⟩
            have c1 := cat_ok (sh (T ++ [w])) q__5_ (by omega) (by decide)
            have c2 := cat_ok (sh (T ++ [w]) ++ q__5_) k (by simp [q__5_]; omega) (by rw [k1]; simp; omega)
            have c3 := cat_e (sh (T ++ [w]) ++ q__5_ ++ k) b (joinL 32 [sh (T ++ [w]), k_w5, kd, b]) (by rw [k1]; simp [q__5_]; omega) (by omega) (by rw [k1]; simp [joinL, q__5_, k_w5])
            have f : LOk (joinL 32 [sh (T ++ [w]), k_w5, kd, b]) false _ := lok_f _ (by simp) (by simp) (by simp [sh_gwd okN, gb.g, gk]; decide) (by intro w h; cases h; exact sh_59 okN)
            refine ⟨(joinL 32 [sh (T ++ [w]), k_w5, kd, b], "name"), ?_, f.dbl (C := "BadName") (by decide +kernel) (no_valueV hT l9 (pa_name hT l9 f okN pN) (by decide) five_life (by omega) k2 k3 gb)⟩
            clear f k1
            generalize joinL 32 [sh (T ++ [w]), k_w5, kd, b] = z at *
            generalize sh (T ++ [w]) ++ q__5_ ++ k = y1 at *
            generalize sh (T ++ [w]) ++ q__5_ = y2 at *
            generalize T ++ [w] = N at *
            generalize W.map PyData.str = WM at *
            generalize Rs.map rowD = RD at *
            simp [-ixD, f_l_wrong, b_l_wrong, d1, d2, d3, d4, d5, d6, d8, d9, hq, i2, tw, n1, h3, h4, e1, q_stpap_s, q__5__s, q_else__s, q_down__s, hqb, hqk, c1, c2, c3, dblD]
        · obtain ⟨l, hl, e1⟩ := r_bad_rows okN (c / 20)
          have gl := rowsL_ok hT l9 okN pN Rs l hl
          refine ⟨(l, "row"), ?_, gl⟩
          have hh : ¬ (c % 5 = 1 ∧ T ≠ []) := h1
          by_cases h11 : c % 5 = 1
          · have hTe : T = [] := by
              by_cases e : T = []
              · exact e
              · exact absurd ⟨h11, e⟩ hh
            rw [decide_eq_true hTe] at cn
            generalize T ++ [w] = N at *
            generalize W.map PyData.str = WM at *
            generalize Rs.map rowD = RD at *
            simp [-ixD, f_l_wrong, b_l_wrong, d1, d2, d3, d4, d5, hq, tw, n1, h11, cn, e1, dblD]
          · generalize T ++ [w] = N at *
            generalize W.map PyData.str = WM at *
            generalize Rs.map rowD = RD at *
            simp [-ixD, f_l_wrong, b_l_wrong, d1, d2, d3, d4, d5, hq, tw, n1, h0, h11, h2, h3, e1, dblD]
/-- a first line that is wrong -/
structure HDbl (p : List Nat × Str) : Prop where
  n10 : ∀ x ∈ p.1, x ≠ 10
  len : p.1.length ≤ 12000
  pas : passB p.1 = false
  ref : ∃ C, (p.2, C) ∈ ways ∧ HRef p.1 C
theorem LOk.hdbl {l : List Nat} {bl : Bool} {ws : List (List Nat)} {way C : Str} (h : LOk l bl ws) (hw : (way, C) ∈ ways) (r : HRef l C) : HDbl (l, way) := ⟨h.n10, h.len, h.pas, C, hw, r⟩
theorem LOk.no32 {l : List Nat} {ws : List (List Nat)} (h : LOk l false ws) : l.head? ≠ some 32 := fun e => by simpa using h.b.mp e
theorem LOk.le {l : List Nat} {bl : Bool} {ws : List (List Nat)} (h : LOk l bl ws) : l.length ≤ 100000 := by have := h.len; omega
theorem r_wrong_first (T : List Str) (hT3 : T.length ≤ 3) (hT : T.all isWordS = true) (c : Int) : ∃ p : List Nat × Str, f_l_wrong_first [nm T, .int c] = .ok (dblD p) ∧ HDbl p := by
  have d1 : binD .mod (.int c) (.int 14) = .ok (.int (c % 14)) := bin_mod _ _ (by omega)
  have d2 : binD .div (.int c) (.int 14) = .ok (.int (c / 14)) := bin_div _ _ (by omega) (by omega)
  have okT := NmOk.all T hT (by omega)
  have n1 := r_name_text T (good_nm okT)
  rw [shown_sh] at n1
  have tl := okT.slen2
  have hwa : isWordS (Str.ofString "a") = true := by decide +kernel
  have ta := tup_add T (Str.ofString "a") (by omega)
  have okA : NmOk (T ++ [Str.ofString "a"]) := NmOk.all _ (by rw [List.all_append, hT]; simp [hwa]) (by simp; omega)
  obtain ⟨b, hb, gb, bl⟩ := r_bad_name (T ++ [Str.ofString "a"]) okA (by simp) (c / 14)
  have rT := read_plain T hT (by omega) [] false
  have aT : ∀ c ∈ sh T, c < 128 := fun c hc => (sh_sign okT c hc).2.2.2.1
  have c1 := cat_e [122, 111, 110, 101, 32] (sh T) (joinL 32 [zoneW, sh T]) (by decide) (by omega) rfl
  have c1' := cat_ok [122, 111, 110, 101, 32] (sh T) (by decide) (by omega)
  have c3 := cat_ok q_zones_ (sh T) (by decide) (by omega)
  have c3b := cat_e (q_zones_ ++ sh T) q__5 (joinL 32 [k_zones, sh T, k_w5]) (by simp [q_zones_]; omega) (by decide) rfl
  have c4 := cat_ok q_Zone_ (sh T) (by decide) (by omega)
  have c4b := cat_e (q_Zone_ ++ sh T) q__5 (joinL 32 [k_Zone, sh T, k_w5]) (by simp [q_Zone_]; omega) (by decide) rfl
  have c5 := cat_ok q__zone_ (sh T) (by decide) (by omega)
  have c5b := cat_e (q__zone_ ++ sh T) q__5 (32 :: joinL 32 [zoneW, sh T, k_w5]) (by simp [q__zone_]; omega) (by decide) rfl
  have c6b := cat_e (joinL 32 [zoneW, sh T]) q__5_5 (joinL 32 [zoneW, sh T, k_w5, k_w5]) (by show ([122, 111, 110, 101, 32] ++ sh T).length ≤ _; simp; omega) (by decide) rfl
  have c7 := cat_e (sh T) q__5_mark_x (joinL 32 [sh T, k_w5, k_mk, k_wx]) (by omega) (by decide) rfl
  have c8b := cat_e (joinL 32 [zoneW, sh T]) q__05 (joinL 32 [zoneW, sh T, k_w05]) (by show ([122, 111, 110, 101, 32] ++ sh T).length ≤ _; simp; omega) (by decide) rfl
  have c9b := cat_e (joinL 32 [zoneW, sh T]) q__x (joinL 32 [zoneW, sh T, k_wx]) (by show ([122, 111, 110, 101, 32] ++ sh T).length ≤ _; simp; omega) (by decide) rfl
  have c10 := cat_ok [122, 111, 110, 101, 32] b (by decide) (by omega)
  have c10b := cat_e ([122, 111, 110, 101, 32] ++ b) q__5 (joinL 32 [zoneW, b, k_w5]) (by simp; omega) (by decide) rfl
  have sz : Str.ofString "zone" = tx zoneW := zone_s
  have s10 : Str.ofString "zone @ 5" = tx (joinL 32 [zoneW, k_wat, k_w5]) := q_zone_at_5_s
  have s11 : Str.ofString "zone a 5" = tx (joinL 32 [zoneW, k_a1, k_w5]) := q_zone_a_5_s
  have s12 : Str.ofString "zone *. 5" = tx (joinL 32 [zoneW, k_wsa, k_w5]) := q_zone_stp_5_s
  have s14 : Str.ofString "zone a.b 5" = tx (joinL 32 [zoneW, k_wab, k_w5]) := q_zone_apb_5_s
  have f1 : LOk (joinL 32 [zoneW, sh T]) false _ := lok_f _ (by simp) (by simp) (by simp [sh_gwd okT]; decide) (by intro w h; cases h; decide)
  have f2 : LOk zoneW false [zoneW] := lok_f [zoneW] (by simp) (by simp) (by decide +kernel) (by intro w h; cases h; decide)
  have f3 : LOk (joinL 32 [k_zones, sh T, k_w5]) false _ := lok_f _ (by simp) (by simp) (by simp [sh_gwd okT]; decide) (by intro w h; cases h; decide)
  have f4 : LOk (joinL 32 [k_Zone, sh T, k_w5]) false _ := lok_f _ (by simp) (by simp) (by simp [sh_gwd okT]; decide) (by intro w h; cases h; decide)
  have f5 : LOk (32 :: joinL 32 [zoneW, sh T, k_w5]) true _ := lok_t _ (by simp) (by simp) (by simp [sh_gwd okT]; decide)
  have f6 : LOk (joinL 32 [zoneW, sh T, k_w5, k_w5]) false _ := lok_f _ (by simp) (by simp) (by simp [sh_gwd okT]; decide) (by intro w h; cases h; decide)
  have f7 : LOk (joinL 32 [sh T, k_w5, k_mk, k_wx]) false _ := lok_f _ (by simp) (by simp) (by simp [sh_gwd okT]; decide) (by intro w h; cases h; exact sh_59 okT)
  have f8 : LOk (joinL 32 [zoneW, sh T, k_w05]) false _ := lok_f _ (by simp) (by simp) (by simp [sh_gwd okT]; decide) (by intro w h; cases h; decide)
  have f9 : LOk (joinL 32 [zoneW, sh T, k_wx]) false _ := lok_f _ (by simp) (by simp) (by simp [sh_gwd okT]; decide) (by intro w h; cases h; decide)
  have f10 : LOk (joinL 32 [zoneW, k_wat, k_w5]) false _ := lok_f _ (by simp) (by simp) (by simp; decide) (by intro w h; cases h; decide)
  have f11 : LOk (joinL 32 [zoneW, k_a1, k_w5]) false _ := lok_f _ (by simp) (by simp) (by simp; decide) (by intro w h; cases h; decide)
  have f12 : LOk (joinL 32 [zoneW, k_wsa, k_w5]) false _ := lok_f _ (by simp) (by simp) (by simp; decide) (by intro w h; cases h; decide)
  have f13 : LOk (joinL 32 [zoneW, b, k_w5]) false _ := lok_f _ (by simp) (by simp) (by simp [gb.g]; decide) (by intro w h; cases h; decide)
  have f14 : LOk (joinL 32 [zoneW, k_wab, k_w5]) false _ := lok_f _ (by simp) (by simp) (by simp; decide) (by intro w h; cases h; decide)
  have ra : readO (k_a1.map lowN) [] false = some [tx [97]] := by decide +kernel
  have rab : readO (k_wab.map lowN) [] false = some [tx [98], tx [97]] := by decide +kernel
  have rat : readO (k_wat.map lowN) [] false = some [] := by decide +kernel
  have rs : readO (k_wsa.map lowN) [] false = none := by decide +kernel
  have tl2 : (sh T).length ≤ 10000 := by omega
  have g1 : HDbl (joinL 32 [zoneW, sh T], "row") := f1.hdbl (C := "BadRow") (by decide +kernel) (rf_head_many _ f1.le f1.no32 (by rw [f1.wd]; simp))
  have g2 : HDbl (zoneW, "row") := f2.hdbl (C := "BadRow") (by decide +kernel) (rf_head_many _ f2.le f2.no32 (by rw [f2.wd]; simp))
  have g3 : HDbl (joinL 32 [k_zones, sh T, k_w5], "row") := f3.hdbl (C := "BadRow") (by decide +kernel) (rf_head_zone _ _ _ _ f3.le f3.no32 f3.wd (by decide))
  have g4 : HDbl (joinL 32 [k_Zone, sh T, k_w5], "row") := f4.hdbl (C := "BadRow") (by decide +kernel) (rf_head_zone _ _ _ _ f4.le f4.no32 f4.wd (by decide))
  have g5 : HDbl (32 :: joinL 32 [zoneW, sh T, k_w5], "row") := f5.hdbl (C := "BadRow") (by decide +kernel) (rf_head_blank _ f5.le (f5.b.mpr rfl))
  have g6 : HDbl (joinL 32 [zoneW, sh T, k_w5, k_w5], "row") := f6.hdbl (C := "BadRow") (by decide +kernel) (rf_head_many _ f6.le f6.no32 (by rw [f6.wd]; simp))
  have g7 : HDbl (joinL 32 [sh T, k_w5, k_mk, k_wx], "row") := f7.hdbl (C := "BadRow") (by decide +kernel) (rf_head_many _ f7.le f7.no32 (by rw [f7.wd]; simp))
  have g8 : HDbl (joinL 32 [zoneW, sh T, k_w05], "row") := f8.hdbl (C := "BadRow") (by decide +kernel) (rf_head_life _ (sh T) _ f8.le f8.no32 f8.wd aT tl2 rT (sh_last T) (by decide) (by decide +kernel))
  have g9 : HDbl (joinL 32 [zoneW, sh T, k_wx], "row") := f9.hdbl (C := "BadRow") (by decide +kernel) (rf_head_life _ (sh T) _ f9.le f9.no32 f9.wd aT tl2 rT (sh_last T) (by decide) (by decide +kernel))
  have g10 : HDbl (joinL 32 [zoneW, k_wat, k_w5], "name") := f10.hdbl (C := "BadName") (by decide +kernel) (rf_head_end _ k_wat _ f10.le f10.no32 f10.wd (by decide) (by decide) rat (by decide))
  have g11 : HDbl (joinL 32 [zoneW, k_a1, k_w5], "name") := f11.hdbl (C := "BadName") (by decide +kernel) (rf_head_end _ k_a1 _ f11.le f11.no32 f11.wd (by decide) (by decide) ra (by decide))
  have g12 : HDbl (joinL 32 [zoneW, k_wsa, k_w5], "name") := f12.hdbl (C := "BadName") (by decide +kernel) (rf_head_name _ k_wsa _ f12.le f12.no32 f12.wd (by decide) (by decide) rs)
  have g13 : HDbl (joinL 32 [zoneW, b, k_w5], "name") := f13.hdbl (C := "BadName") (by decide +kernel) (rf_head_name _ b _ f13.le f13.no32 f13.wd gb.asc (by omega) (gb.no [] false))
  have g14 : HDbl (joinL 32 [zoneW, k_wab, k_w5], "name") := f14.hdbl (C := "BadName") (by decide +kernel) (rf_head_end _ k_wab _ f14.le f14.no32 f14.wd (by decide) (by decide) rab (by decide))
  clear f1 f2 f3 f4 f5 f6 f7 f8 f9 f10 f11 f12 f13 f14 rT aT
  generalize [122, 111, 110, 101, 32] ++ b = y10 at *
  generalize q_zones_ ++ sh T = y3 at *
  generalize q_Zone_ ++ sh T = y4 at *
  generalize q__zone_ ++ sh T = y5 at *
  generalize joinL 32 [zoneW, sh T] = z1 at *
  generalize joinL 32 [k_zones, sh T, k_w5] = z3 at *
  generalize joinL 32 [k_Zone, sh T, k_w5] = z4 at *
  generalize 32 :: joinL 32 [zoneW, sh T, k_w5] = z5 at *
  generalize joinL 32 [zoneW, sh T, k_w5, k_w5] = z6 at *
  generalize joinL 32 [sh T, k_w5, k_mk, k_wx] = z7 at *
  generalize joinL 32 [zoneW, sh T, k_w05] = z8 at *
  generalize joinL 32 [zoneW, sh T, k_wx] = z9 at *
  generalize joinL 32 [zoneW, k_wat, k_w5] = z10 at *
  generalize joinL 32 [zoneW, k_a1, k_w5] = z11 at *
  generalize joinL 32 [zoneW, k_wsa, k_w5] = z12 at *
  generalize joinL 32 [zoneW, b, k_w5] = z13 at *
  generalize joinL 32 [zoneW, k_wab, k_w5] = z14 at *
  generalize T ++ [Str.ofString "a"] = TA at *
  by_cases h9 : c % 14 < 9
  · obtain ⟨l, hl, hq⟩ := at_any txD [z1, zoneW, z3, z4, z5, z6, z7, z8, z9] (c % 14) (by omega) (by simp; omega)
    simp only [List.map_cons, List.map_nil] at hq
    simp only [txD] at hq
    refine ⟨(l, "row"), ?_, ?_⟩
    · simp [-ixD, f_l_wrong_first, b_l_wrong_first, n1, zone5, sz, q_zones__s, q_Zone__s, q__zone__s, q__5_s, q__5_5_s, q__5_mark_x_s, q__05_s, q__x_s, c1, c3, c3b, c4, c4b, c5, c5b, c6b, c7, c8b, c9b, bin_lst, d1, h9, hq, dblD]
    · simp only [List.mem_cons, List.not_mem_nil, or_false] at hl
      rcases hl with rfl | rfl | rfl | rfl | rfl | rfl | rfl | rfl | rfl <;> assumption
  · obtain ⟨l, hl, hq⟩ := at_any txD [z10, z11, z12, z13, z14] (c % 14 - 9) (by omega) (by simp; omega)
    simp only [List.map_cons, List.map_nil] at hq
    simp only [txD] at hq
    refine ⟨(l, "name"), ?_, ?_⟩
    · simp [-ixD, f_l_wrong_first, b_l_wrong_first, n1, zone5, sz, q_zones__s, q_Zone__s, q__zone__s, q__5_s, q__5_5_s, q__5_mark_x_s, q__05_s, q__x_s, c1, c3, c3b, c4, c4b, c5, c5b, c6b, c7, c8b, c9b, bin_lst, d1, d2, h9, ta, hb, c10, c10b, s10, s11, s12, s14, hq, dblD]
    · simp only [List.mem_cons, List.not_mem_nil, or_false] at hl
      rcases hl with rfl | rfl | rfl | rfl | rfl <;> assumption
theorem pow_6 : binD .pow (.int 10) (.int 6) = .ok (.int 1000000) := by
  simp only [binD]
  rw [if_pos (by decide)]
  rfl
theorem hbad_skip {T : List Str} {n : Int} {C : Str} {m : Nat} : ∀ (L : List (List Nat)) (k : Nat) (ls : List (List Nat)), (∀ l ∈ L, passB l = true) → HBad T n C (k + L.length) ls m → HBad T n C k (L ++ ls) m
  | [], k, ls, _, h => h
  | l :: L, k, ls, hp, h => .skip (hp l (by simp)) (hbad_skip L (k + 1) ls (fun x hx => hp x (by simp [hx])) (by
    have e : k + 1 + L.length = k + (l :: L).length := by simp only [List.length_cons]; omega
    rw [e]
    exact h))
theorem rbad_skip {T : List Str} {C : Str} {m : Nat} {Rs : List Row} : ∀ (L : List (List Nat)) (k : Nat) (ls : List (List Nat)), (∀ l ∈ L, passB l = true) → RBad T C (k + L.length) Rs ls m → RBad T C k Rs (L ++ ls) m
  | [], k, ls, _, h => h
  | l :: L, k, ls, hp, h => .skip (hp l (by simp)) (rbad_skip L (k + 1) ls (fun x hx => hp x (by simp [hx])) (by
    have e : k + 1 + L.length = k + (l :: L).length := by simp only [List.length_cons]; omega
    rw [e]
    exact h))
theorem heads_skip {T : List Str} {n : Int} {Rs : List Row} : ∀ (L ls : List (List Nat)), (∀ l ∈ L, passB l = true) → Heads T n ls Rs → Heads T n (L ++ ls) Rs
  | [], ls, _, h => h
  | l :: L, ls, hp, h => .skip (hp l (by simp)) (heads_skip L ls (fun x hx => hp x (by simp [hx])) h)
theorem rbad_rows2 {T : List Str} {C : Str} {m : Nat} (hT : T.all isWordS = true) (hl : T.length ≤ 9) : ∀ (Rs Q : List Row) (ls : List (List Nat)) (k : Nat), (∀ r ∈ Rs, LRow T r) → (∀ r ∈ Rs, ∀ x ∈ Q, clashB x r = false) → Rs.Pairwise (fun x r => clashB x r = false) → RBad T C (k + Rs.length) (Q ++ Rs) ls m → RBad T C k Q (Rs.map lineL ++ ls) m
  | [], Q, ls, k, _, _, _, h => by
    rw [List.append_nil] at h
    exact h
  | r :: Rs, Q, ls, k, h, hq, hp, hb => by
    rw [List.pairwise_cons] at hp
    have e : k + (r :: Rs).length = k + 1 + Rs.length := by simp only [List.length_cons]; omega
    rw [e] at hb
    have z := rbad_rows2 hT hl Rs (Q ++ [r]) ls (k + 1) (fun x hx => h x (by simp [hx])) (fun x hx y hy => by
        rcases List.mem_append.mp hy with hy | hy
        · exact hq x (by simp [hx]) y hy
        · rw [List.mem_singleton] at hy
          subst hy
          exact hp.1 x hx) hp.2 (by rw [List.append_assoc]; exact hb)
    rw [List.map_cons]
    refine .row (r := r) (line_pass (h r (by simp))) (fun k => line_reads hT hl Q r (h r (by simp)) ?_ k) z
    rw [List.any_eq_false]
    exact fun x hx => by rw [hq r (by simp) x hx]; decide
theorem lines_len70 (ls : List (List Nat)) (hn : ls.length ≤ 70) (h : ∀ l ∈ ls, l.length ≤ 12000) : (joinL 10 ls).length ≤ 900000 := by
  have := joinL_len 10 12000 ls h
  have h2 : ls.length * (12000 + 1) ≤ 70 * 12001 := Nat.mul_le_mul hn (by omega)
  omega
theorem join_lines70 (L : List (List Nat)) (hn : L.length ≤ 70) (h : ∀ l ∈ L, l.length ≤ 12000) : m1D .join (.str (tx [10])) (.list (L.map txD)) = .ok (.str (tx (joinL 10 L))) := by
  refine join_s 10 L 12000 h ?_
  have h2 : L.length * (12000 + 1) ≤ 70 * 12001 := Nat.mul_le_mul hn (by omega)
  omega
theorem read_bad2 {T : List Str} {C : Str} (hT : T.all isWordS = true) (hl : T.length ≤ 9) (n : Nat) (hn : n < 1000000000) (lead more : List (List Nat)) (p1 : ∀ l ∈ lead, passB l = true) (p2 : ∀ l ∈ more, passB l = true) (Rs : List Row) (g : ∀ r ∈ Rs, LRow T r) (hp : Rs.Pairwise (fun x r => clashB x r = false)) (l : List Nat) (hps : passB l = false) (hR : Ref T Rs l C) (ls : List (List Nat))
    (hlen : (lead ++ headL T n :: (Rs.map lineL ++ (more ++ l :: ls))).length ≤ 70) (h10 : ∀ w ∈ lead ++ headL T n :: (Rs.map lineL ++ (more ++ l :: ls)), (∀ x ∈ w, x ≠ 10) ∧ w.length ≤ 12000) : f_p_read_zone [.str (tx (joinL 10 (lead ++ headL T n :: (Rs.map lineL ++ (more ++ l :: ls)))))] = .exc C (some (.int ((0 + lead.length + 1 + Rs.length + more.length + 1 : Nat) : Int))) := by
  refine r_read_bad _ (lines_len70 _ hlen fun w hw => (h10 w hw).2) T n C _ ?_
  rw [splitL_join 10 _ (by simp) fun w hw => (h10 w hw).1]
  refine hbad_skip lead 0 _ p1 (.head (head_pass T n) (head_reads hT hl n hn) ?_)
  refine rbad_rows2 hT hl Rs [] _ _ g (by simp) hp ?_
  rw [List.nil_append]
  exact rbad_skip more _ _ p2 (.bad hps hR)
theorem read_bad3 {C : Str} (lead : List (List Nat)) (p1 : ∀ l ∈ lead, passB l = true) (l : List Nat) (hps : passB l = false) (hR : HRef l C) (ls : List (List Nat)) (hlen : (lead ++ l :: ls).length ≤ 70) (h10 : ∀ w ∈ lead ++ l :: ls, (∀ x ∈ w, x ≠ 10) ∧ w.length ≤ 12000) : f_p_read_zone [.str (tx (joinL 10 (lead ++ l :: ls)))] = .exc C (some (.int ((0 + lead.length + 1 : Nat) : Int))) := by
  refine r_read_bad _ (lines_len70 _ hlen fun w hw => (h10 w hw).2) [] 0 C _ ?_
  rw [splitL_join 10 _ (by simp) fun w hw => (h10 w hw).1]
  exact hbad_skip lead 0 _ p1 (.bad hps hR)
theorem r_read_none (t : List Nat) (ht : t.length ≤ 900000) (h : ∀ l ∈ splitL 10 t, passB l = true) : f_p_read_zone [.str (tx t)] = .exc "BadRow" (some (.int 0)) := by
  have hB : ∀ w ∈ splitL 10 t, w.length ≤ 1000000 := fun w hw => by
    have := (splitL_mem 10 t w hw).1
    omega
  have hw : ∃ k : Nat, exS Q_p_read_zone w0_p_read_zone [.fz (.str (tx t)), .fz .none, .ow [], .fz (.int 0), .un] = .nx [.fz (.str (tx t)), .fz .none, .ow [], .fz (.int k), .un] := by
    refine for_st (fun w => PyData.str (tx w)) (splitL 10 t) (fun k : Nat => [Sl.fz (.str (tx t)), .fz .none, .ow [], .fz (.int k), .un])
      (fun rest _ => ∀ w ∈ rest, w.length ≤ 1000000 ∧ passB w = true) (fun o => ∃ k : Nat, o = .nx [.fz (.str (tx t)), .fz .none, .ow [], .fz (.int k), .un]) 0 ?_ (fun w hw => ⟨hB w hw, h w hw⟩) rfl (fun k _ => ⟨k, rfl⟩) fun l rest k hr => ⟨_, rfl, .inl ?_⟩
    · have := m1_split 10 t (by omega)
      simp [line_s, this]
    · obtain ⟨hl1, hp⟩ := hr l (by simp)
      have ep := r_passed l hl1
      rw [hp] at ep
      have ek : (k : Int) + 1 = ((k + 1 : Nat) : Int) := by omega
      refine ⟨k + 1, [.fz (.str (tx t)), .fz .none, .ow [], .fz (.int ((k + 1 : Nat) : Int)), .fz (.str (tx l))], .inr ?_, rfl, fun w hw => hr w (by simp [hw])⟩
      generalize ((k + 1 : Nat) : Int) = kk at *
      simp [v0_p_read_zone, ek, ep]
  obtain ⟨k, hw⟩ := hw
  have e0 : cmpD .isN .none .none = .ok true := rfl
  simp [f_p_read_zone, b_p_read_zone, hw, e0]
theorem r_read_other (d : Dat) (h : isiD .str d = .ok false) : f_p_read_zone [d] = .exc "BadRow" (some (.int 0)) := by
  simp [-isiD, f_p_read_zone, b_p_read_zone, h]
theorem r_is_refused (d : Dat) (m : Int) (way C : Str) (hw : (way, C) ∈ ways) (h : f_p_read_zone [d] = .exc C (some (.int m))) : f_l_is_refused [d, .int m, .str way] = .ok (.bool true) := by
  have e1 := r_refused d m way C hw h
  have e2 := r_due m way
  have e3 := due_eq m way
  have e4 : cmpD .eq (dueD m way) (.tuple []) = .ok false := by
    have hd : shOk (dueD m way) = true := rfl
    rw [cmpEq _ _ hd rfl]
    rfl
  have e5 : ixD (dueD m way) (.int 0) = .ok (.int m) := rfl
  have e6 : isiD .bool (.int m) = .ok false := rfl
  have e7 : isiD .int (.int m) = .ok true := rfl
  generalize dueD m way = D at *
  simp [-ixD, -isiD, f_l_is_refused, b_l_is_refused, e1, e2, e3, e4, e5, e6, e7]
theorem pass_c : ∀ b ∈ [q_sc, q_sc_zone_p_5, [], [32], q_scx_5_mark_x], passB b = true ∧ (∀ x ∈ b, x ≠ 10) ∧ b.length ≤ 100 := by decide +kernel
theorem r_passed_l (m : Nat) (hm : m ≤ 5) (c : Int) : ∃ L : List (List Nat), f_l_passed [.int m, .int c] = .ok (.list (L.map txD)) ∧ L.length = m ∧ ∀ l ∈ L, passB l = true ∧ (∀ x ∈ l, x ≠ 10) ∧ l.length ≤ 100 := by
  have key : ∀ k : Nat, ∃ b ∈ [q_sc, q_sc_zone_p_5, [], [32], q_scx_5_mark_x], ixD (.list [.str (tx q_sc), .str (tx q_sc_zone_p_5), .str (tx []), .str (tx [32]), .str (tx q_scx_5_mark_x)]) (.int ((c + k) % 5)) = .ok (.str (tx b)) := fun k =>
    at_any txD [q_sc, q_sc_zone_p_5, [], [32], q_scx_5_mark_x] ((c + k) % 5) (by omega) (by simp; omega)
  have key2 : ∃ g : Nat → List Nat, ∀ k, g k ∈ [q_sc, q_sc_zone_p_5, [], [32], q_scx_5_mark_x] ∧ ixD (.list [.str (tx q_sc), .str (tx q_sc_zone_p_5), .str (tx []), .str (tx [32]), .str (tx q_scx_5_mark_x)]) (.int ((c + k) % 5)) = .ok (.str (tx (g k))) :=
    ⟨fun k => (key k).choose, fun k => (key k).choose_spec⟩
  obtain ⟨g, hg⟩ := key2
  have he : ev Q_l_passed e0_l_passed [.fz (.int m), .fz (.int c), .un] = .ok (.list (((List.range m).map g).map txD)) := by
    rw [List.map_map]
    refine lc_map (fun i : Nat => PyData.int (i : Int)) (txD ∘ g) (List.range m) ?_ (by simp; omega) fun k _ => ⟨_, rfl, by simp, ?_⟩
    · simp
      exact r1R_nat (by omega)
    · have h1 := (hg k).2
      have h2 : binD .mod (.int (c + k)) (.int 5) = .ok (.int ((c + k) % 5)) := bin_mod _ _ (by omega)
      show ev Q_l_passed _ _ = .ok (.str (tx (g k)))
      generalize g k = z at *
      generalize (c + (k : Int)) % 5 = ck at *
      simp [-ixD, q_sc_s, q_sc_zone_p_5_s, empty_s, blank_s, q_scx_5_mark_x_s, h2, h1]
  refine ⟨(List.range m).map g, ?_, by simp, fun l hl => ?_⟩
  · generalize ((List.range m).map g).map txD = D at *
    simp [f_l_passed, b_l_passed, he]
  · obtain ⟨k, _, rfl⟩ := List.mem_map.mp hl
    exact pass_c _ (hg k).1
theorem law_true (ns : List Int) (hl : ns.length ≤ 63) : f_law [.list (ns.map .int)] = .ok (.bool true) := by
  have c0 : f_l_cell_at [.list (ns.map .int), .int 0] = .ok (.int (cell ns 0)) := r_cell ns 0
  have c1 : f_l_cell_at [.list (ns.map .int), .int 1] = .ok (.int (cell ns 1)) := r_cell ns 1
  have c2 : f_l_cell_at [.list (ns.map .int), .int 2] = .ok (.int (cell ns 2)) := r_cell ns 2
  have c3 : f_l_cell_at [.list (ns.map .int), .int 3] = .ok (.int (cell ns 3)) := r_cell ns 3
  have c4 : f_l_cell_at [.list (ns.map .int), .int 4] = .ok (.int (cell ns 4)) := r_cell ns 4
  have c5 : f_l_cell_at [.list (ns.map .int), .int 5] = .ok (.int (cell ns 5)) := r_cell ns 5
  have c6 : f_l_cell_at [.list (ns.map .int), .int 6] = .ok (.int (cell ns 6)) := r_cell ns 6
  generalize cell ns 0 = n0 at c0
  generalize cell ns 1 = n1 at c1
  generalize cell ns 2 = n2 at c2
  generalize cell ns 3 = n3 at c3
  generalize cell ns 4 = n4 at c4
  generalize cell ns 5 = n5 at c5
  generalize cell ns 6 = n6 at c6
  obtain ⟨W, w1, w2, w3, w4⟩ := r_words n0 n1
  have p2 := r_part n2 0 4 (by omega)
  have p2l := part_lo n2 0 4 (by omega)
  have p2h := part_hi n2 0 4 (by omega)
  generalize part n2 0 4 = m2 at *
  obtain ⟨T, t1, t2, t3⟩ := r_below W w2 n2 1 m2 p2l (by omega)
  have hT : T.length ≤ 3 := by omega
  have aT := all_of w3 t3
  have hcs : (cutL ns (some 7) (some 29)).length ≤ 22 := by
    have this : cutL ns (some 7) (some 29) = (ns.drop 7).take (29 - 7) := cut_mid ns 7 29
    rw [this]
    simp
    omega
  obtain ⟨Rs, r1, r2', r3, r4⟩ := r_rows W w2 w3 T hT aT (cutL ns (some 7) (some 29)) (by omega)
  have r2 := r2'
  have bm : binD .mod (.int n3) (.int 1000000000) = .ok (.int (n3 % 1000000000)) := bin_mod _ _ (by omega)
  obtain ⟨n, hn⟩ := Int.eq_ofNat_of_zero_le (a := n3 % 1000000000) (by omega)
  have hn9 : n < 1000000000 := by omega
  rw [hn] at bm
  have ok := NmOk.all T aT (by omega)
  have s1 := r_name_text T (good_nm ok)
  rw [shown_sh] at s1
  have s2 := bi_num n hn9
  have hm := head_made ok n hn9
  have hlen : biD .len [.list (Rs.map rowD)] = .ok (.int Rs.length) := by simp only [biD, List.length_map]
  have hr0 : (0 : Int) < (Rs.length : Int) + 1 := by omega
  have k1 : binD .mod (.int n5) (.int ((Rs.length : Int) + 1)) = .ok (.int (n5 % ((Rs.length : Int) + 1))) := bin_mod _ _ hr0
  have k1l := Int.emod_nonneg n5 (b := (Rs.length : Int) + 1) (by omega)
  have k1h := Int.emod_lt_of_pos n5 hr0
  obtain ⟨a, ha⟩ := Int.eq_ofNat_of_zero_le k1l
  rw [ha] at k1 k1h
  have ha2 : a ≤ Rs.length := by omega
  have d1 : binD .mod (.int n4) (.int 4) = .ok (.int (n4 % 4)) := bin_mod _ _ (by omega)
  have d2 : binD .div (.int n4) (.int 4) = .ok (.int (n4 / 4)) := bin_div _ _ (by omega) (by omega)
  have d3 : binD .div (.int n4) (.int 20) = .ok (.int (n4 / 20)) := bin_div _ _ (by omega) (by omega)
  have d4 : binD .mod (.int (n4 / 20)) (.int 3) = .ok (.int (n4 / 20 % 3)) := bin_mod _ _ (by omega)
  have d5 : binD .div (.int n4) (.int 60) = .ok (.int (n4 / 60)) := bin_div _ _ (by omega) (by omega)
  have d6 : binD .div (.int n4) (.int 180) = .ok (.int (n4 / 180)) := bin_div _ _ (by omega) (by omega)
  have d7 : binD .mod (.int n4) (.int 5) = .ok (.int (n4 % 5)) := bin_mod _ _ (by omega)
  have d8 : binD .mod (.int n6) (.int 1000000) = .ok (.int (n6 % 1000000)) := bin_mod _ _ (by omega)
  obtain ⟨ml, hml⟩ := Int.eq_ofNat_of_zero_le (a := n4 % 4) (by omega)
  obtain ⟨mm, hmm⟩ := Int.eq_ofNat_of_zero_le (a := n4 / 20 % 3) (by omega)
  obtain ⟨lead, b1, b2, b3⟩ := r_passed_l ml (by omega) (n4 / 4)
  obtain ⟨more, b4, b5, b6⟩ := r_passed_l mm (by omega) (n4 / 60)
  rw [hml] at d1
  rw [hmm] at d4
  have u1 := sl_rows Rs a
  obtain ⟨p, hp, gp⟩ := r_wrong W w2 w3 w4 T hT aT (Rs.take a) (fun r hr => r3 r (List.mem_of_mem_take hr)) (n6 % 1000000)
  obtain ⟨f, hf, gf⟩ := r_wrong_first T hT aT (n4 / 180)
  obtain ⟨l, way⟩ := p
  obtain ⟨z, wz⟩ := f
  have good : ∀ w ∈ headL T n :: Rs.map lineL, (∀ x ∈ w, x ≠ 10) ∧ w.length ≤ 12000 := fun w hw => by
    rcases List.mem_cons.mp hw with rfl | hw
    · exact ⟨head_no10 ok n, by have := head_len ok n hn9; omega⟩
    · obtain ⟨r, hr, rfl⟩ := List.mem_map.mp hw
      exact ⟨line_no10 (r3 r hr), by have := line_len (r3 r hr); omega⟩
  have goodT : ∀ w ∈ (Rs.take a).map lineL, (∀ x ∈ w, x ≠ 10) ∧ w.length ≤ 12000 := fun w hw => good w (by
    rw [List.map_take] at hw
    exact List.mem_cons_of_mem _ (List.mem_of_mem_take hw))
  have goodL : ∀ w ∈ lead, (∀ x ∈ w, x ≠ 10) ∧ w.length ≤ 12000 := fun w hw => ⟨(b3 w hw).2.1, by have := (b3 w hw).2.2; omega⟩
  have goodM : ∀ w ∈ more, (∀ x ∈ w, x ≠ 10) ∧ w.length ≤ 12000 := fun w hw => ⟨(b6 w hw).2.1, by have := (b6 w hw).2.2; omega⟩
  have goodW : ∀ w ∈ lead ++ headL T n :: ((Rs.take a).map lineL ++ (more ++ l :: (Rs.map lineL).drop a)), (∀ x ∈ w, x ≠ 10) ∧ w.length ≤ 12000 := fun w hw => by
    rcases List.mem_append.mp hw with hw | hw
    · exact goodL w hw
    · rcases List.mem_cons.mp hw with rfl | hw
      · exact good _ (by simp)
      · rcases List.mem_append.mp hw with hw | hw
        · exact goodT w hw
        · rcases List.mem_append.mp hw with hw | hw
          · exact goodM w hw
          · rcases List.mem_cons.mp hw with rfl | hw
            · exact ⟨gp.n10, gp.len⟩
            · exact good w (List.mem_cons_of_mem _ (List.mem_of_mem_drop hw))
  have goodF : ∀ w ∈ lead ++ z :: Rs.map lineL, (∀ x ∈ w, x ≠ 10) ∧ w.length ≤ 12000 := fun w hw => by
    rcases List.mem_append.mp hw with hw | hw
    · exact goodL w hw
    · rcases List.mem_cons.mp hw with rfl | hw
      · exact ⟨gf.n10, gf.len⟩
      · exact good w (List.mem_cons_of_mem _ hw)
  have goodG : ∀ w ∈ lead ++ headL T n :: Rs.map lineL, (∀ x ∈ w, x ≠ 10) ∧ w.length ≤ 12000 := fun w hw => by
    rcases List.mem_append.mp hw with hw | hw
    · exact goodL w hw
    · exact good w hw
  have ta : (Rs.take a).length = a := by simp; omega
  have hlenW : (lead ++ headL T n :: ((Rs.take a).map lineL ++ (more ++ l :: (Rs.map lineL).drop a))).length ≤ 70 := by simp; omega
  have hlenF : (lead ++ z :: Rs.map lineL).length ≤ 70 := by simp; omega
  have hlenG : (lead ++ headL T n :: Rs.map lineL).length ≤ 70 := by simp; omega
  have hlenL : lead.length ≤ 70 := by omega
  obtain ⟨C, hC, hRC⟩ := gp.ref
  obtain ⟨C0, hC0, hRC0⟩ := gf.ref
  have z1 := r_is_refused _ _ way C hC (read_bad2 (C := C) aT (by omega) n hn9 lead more (fun l hl => (b3 l hl).1) (fun l hl => (b6 l hl).1) (Rs.take a) (fun r hr => r3 r (List.mem_of_mem_take hr)) (r4.sublist (List.take_sublist _ _)) l gp.pas hRC _ hlenW goodW)
  have z2 := r_is_refused _ _ wz C0 hC0 (read_bad3 (C := C0) lead (fun l hl => (b3 l hl).1) z gf.pas hRC0 _ hlenF goodF)
  have hrow : (Str.ofString "row", Str.ofString "BadRow") ∈ ways := by decide +kernel
  have z3 := r_is_refused _ _ _ _ hrow (r_read_none (joinL 10 lead) (lines_len70 _ hlenL fun w hw => (goodL w hw).2) (by
    by_cases hz : lead = []
    · rw [hz]
      decide +kernel
    · rw [splitL_join 10 lead hz fun w hw => (goodL w hw).1]
      exact fun l hl => (b3 l hl).1))
  obtain ⟨o, ho, hqo⟩ := at_any (fun d : Dat => d) [.none, .int 5, .list [.str (Str.ofString "zone . 5")], .tuple [.str (Str.ofString "zone"), .tuple [], .int 5], .bool true] (n4 % 5) (by omega) (by simp; omega)
  simp only [List.map_cons, List.map_nil] at hqo
  have z4 := r_is_refused o _ _ _ hrow (r_read_other o (by
    simp only [List.mem_cons, List.not_mem_nil, or_false] at ho
    rcases ho with rfl | rfl | rfl | rfl | rfl <;> rfl))
  have z5 : f_p_read_zone [.str (tx (joinL 10 (lead ++ headL T n :: Rs.map lineL)))] = .ok (zoneD T n Rs) := by
    refine r_read_zone _ (lines_len70 _ hlenG fun w hw => (goodG w hw).2) T n Rs ?_
    rw [splitL_join 10 _ (by simp) fun w hw => (goodG w hw).1]
    exact heads_skip lead _ (fun l hl => (b3 l hl).1) (.head (head_pass T n) (head_reads aT (by omega) n hn9) (by simpa using reads_all aT (by omega) Rs [] r3 (by simp) r4))
  have j1 := join_lines70 _ hlenW fun w hw => (goodW w hw).2
  have j2 := join_lines70 _ hlenF fun w hw => (goodF w hw).2
  have j3 := join_lines70 _ hlenL fun w hw => (goodL w hw).2
  have j4 := join_lines70 _ hlenG fun w hw => (goodG w hw).2
  have zo := r_is_zone T n Rs r2
  have i1 := sl_to (headL T n :: Rs.map lineL) (a + 1)
  have i2 := sl_from (headL T n :: Rs.map lineL) (a + 1)
  have i3 : slD (.list ((headL T n :: Rs.map lineL).map txD)) (some 1) none = .ok (.list ((Rs.map lineL).map txD)) := sl_from (headL T n :: Rs.map lineL) 1
  have gl : (headL T n :: Rs.map lineL).length ≤ 70 := by simp; omega
  have t1l : ((headL T n :: Rs.map lineL).take (a + 1)).length ≤ 70 := by rw [List.length_take]; omega
  have t2l : ((headL T n :: Rs.map lineL).drop (a + 1)).length ≤ 70 := by rw [List.length_drop]; omega
  have ml3 : more.length ≤ 5 := by omega
  have ll3 : lead.length ≤ 5 := by omega
  have g1 := lst_add lead ((headL T n :: Rs.map lineL).take (a + 1)) (by omega)
  have g2 := lst_add (lead ++ (headL T n :: Rs.map lineL).take (a + 1)) more (by rw [List.length_append]; omega)
  have g3 : binD .add (.list ((lead ++ (headL T n :: Rs.map lineL).take (a + 1) ++ more).map txD)) (.list [.str (tx l)]) = .ok (.list ((lead ++ (headL T n :: Rs.map lineL).take (a + 1) ++ more ++ [l]).map txD)) := lst_add _ [l] (by rw [List.length_append, List.length_append]; simp only [List.length_cons, List.length_nil]; omega)
  have g4 := lst_add (lead ++ (headL T n :: Rs.map lineL).take (a + 1) ++ more ++ [l]) ((headL T n :: Rs.map lineL).drop (a + 1)) (by rw [List.length_append, List.length_append, List.length_append]; simp only [List.length_cons, List.length_nil]; omega)
  have e4 : lead ++ (headL T n :: Rs.map lineL).take (a + 1) ++ more ++ [l] ++ (headL T n :: Rs.map lineL).drop (a + 1) = lead ++ headL T n :: ((Rs.take a).map lineL ++ (more ++ l :: (Rs.map lineL).drop a)) := by simp [List.map_take]
  rw [e4] at g4
  have g5 : binD .add (.list (lead.map txD)) (.list [.str (tx z)]) = .ok (.list ((lead ++ [z]).map txD)) := lst_add lead [z] (by simp; omega)
  have g6 := lst_add (lead ++ [z]) (Rs.map lineL) (by simp; omega)
  have e6 : lead ++ [z] ++ Rs.map lineL = lead ++ z :: Rs.map lineL := by simp
  rw [e6] at g6
  have g7 : binD .add (.list [.str (tx (headL T n))]) (.list ((Rs.map lineL).map txD)) = .ok (.list ((headL T n :: Rs.map lineL).map txD)) := lst_add [headL T n] (Rs.map lineL) (by simp; omega)
  have g8 := lst_add lead (headL T n :: Rs.map lineL) (by omega)
  have eB : ((a + 1 : Nat) : Int) = (a : Int) + 1 := by omega
  rw [eB] at i1 i2
  have eN : ((0 + lead.length + 1 + (Rs.take a).length + more.length + 1 : Nat) : Int) = (lead.length : Int) + (a : Int) + 2 + (more.length : Int) := by omega
  rw [eN] at z1
  have eN2 : ((0 + lead.length + 1 : Nat) : Int) = (lead.length : Int) + 1 := by omega
  rw [eN2] at z2
  have y1 : biD .len [.list (lead.map txD)] = .ok (.int lead.length) := by simp only [biD, List.length_map]
  have y2 : biD .len [.list (more.map txD)] = .ok (.int more.length) := by simp only [biD, List.length_map]
  have el : ∀ (A B : Sl), ev Q_law e0_law [.fz (.list (ns.map .int)), .fz (.list (W.map .str)), .fz (nm T), .fz (.int n), .fz (.list (Rs.map rowD)), A, B, .un, .un, .un, .un, .un, .un, .un] = .ok (.list ((Rs.map lineL).map txD)) := fun A B => by
    rw [List.map_map]
    refine lc_map rowD (txD ∘ lineL) Rs (by simp) (by omega) fun r hr => ⟨_, rfl, ?_⟩
    have := r_line (r3 r hr)
    simp [this, txD]
  have u0 : slD (.list (ns.map PyData.int)) (some 7) (some 29) = .ok (.list ((cutL ns (some 7) (some 29)).map .int)) := by simp only [slD, cut_map]
  clear e4 e6 good goodT goodL goodM goodW goodF goodG hlenW hlenF hlenG hlenL gp gf hRC hRC0 gl t1l t2l eN eN2 eB
  generalize joinL 10 (lead ++ headL T n :: ((Rs.take a).map lineL ++ (more ++ l :: (Rs.map lineL).drop a))) = JW at *
  generalize joinL 10 (lead ++ z :: Rs.map lineL) = JF at *
  generalize joinL 10 (lead ++ headL T n :: Rs.map lineL) = JG at *
  generalize joinL 10 lead = JL at *
  generalize (lead ++ headL T n :: ((Rs.take a).map lineL ++ (more ++ l :: (Rs.map lineL).drop a))).map txD = DW at *
  generalize (lead ++ (headL T n :: Rs.map lineL).take (a + 1) ++ more ++ [l]).map txD = D1 at *
  generalize (lead ++ (headL T n :: Rs.map lineL).take (a + 1) ++ more).map txD = D2 at *
  generalize (lead ++ (headL T n :: Rs.map lineL).take (a + 1)).map txD = D3 at *
  generalize ((headL T n :: Rs.map lineL).take (a + 1)).map txD = D4 at *
  generalize ((headL T n :: Rs.map lineL).drop (a + 1)).map txD = D5 at *
  generalize (lead ++ z :: Rs.map lineL).map txD = DF at *
  generalize (lead ++ headL T n :: Rs.map lineL).map txD = DG2 at *
  generalize (headL T n :: Rs.map lineL).map txD = DG at *
  generalize (lead ++ [z]).map txD = D6 at *
  generalize (Rs.map lineL).map txD = D7 at *
  generalize hlead : lead.map txD = DL at *
  generalize hmore : more.map txD = DM at *
  generalize (Rs.take a).map rowD = RA at *
  generalize hzz : zoneD T n Rs = ZZ at *
  generalize hRD : Rs.map rowD = RD at *
  generalize (lead.length : Int) = LL at *
  generalize (more.length : Int) = ML at *
  clear hzz ho hlead hmore
  simp only [dblD] at hp hf
  have q1 : cmpD .ne (.int (n : Int)) (.int (n : Int)) = .ok false := by simp
  have q2 : cmpD .ne (.int (a : Int)) (.int (a : Int)) = .ok false := by simp
  simp [-ixD, -slD, -biD, -m1D, f_law, b_law, c0, c1, c2, c3, c4, c5, c6, w1, p2, t1, pow_9, pow_6, bm, u0, r1, d1, d2, d3, d4, d5, d6, d7, d8, b1, b4, s1, s2, zone5, blank_s, binR_bind, hm, el, g7, hlen, k1, u1, hp, hf, i1, i2, i3, g1, g2, g3, g4, g5, g6, g8, y1, y2, line_s, j1, j2, j3, j4, z1, z2, z3, z4, z5, hqo, q1, q2, zo]
end NK14
end

section
set_option maxHeartbeats 0
namespace NK14
open PySem PySem.Spec PyProof.Rows L2 NW
def top (i : Nat) : Stmt := PySem.Challenge.pw_namewell_k14_a_wrong_line.main.body.getD i (.Pass ⟨0, 0, 0, 0⟩)
abbrev FnP (K : PySem.W.Frag) (x : Str) (st : Stmt) (f : Addr) (fd : FuncData) : Prop := FunD K x x (defArgs st) (defBody st) (defScope st) [] [] f fd
theorem ok_p_at_or_beneath : okSs (T.at_ false) 0 N_p_at_or_beneath (defScope (top 16)) 0 b_p_at_or_beneath (defBody (top 16)) = true := by decide +kernel
theorem sc_p_at_or_beneath : FnScope N_p_at_or_beneath ["name", "top"] (defScope (top 16)) := ⟨rfl, rfl, rfl, by decide +kernel, rfl, by decide +kernel, by decide +kernel⟩
def d_p_at_or_beneath : He.DefD := ⟨("at_or_beneath", none), "at_or_beneath", "at_or_beneath", defArgs (top 16), defBody (top 16), defScope (top 16), [], []⟩
theorem ok_p_is_word : okSs (T.at_ true) 1 N_p_is_word (defScope (top 17)) 0 b_p_is_word (defBody (top 17)) = true := by decide +kernel
theorem sc_p_is_word : FnScope N_p_is_word ["text"] (defScope (top 17)) := ⟨rfl, rfl, rfl, by decide +kernel, rfl, by decide +kernel, by decide +kernel⟩
def d_p_is_word : He.DefD := ⟨("is_word", none), "is_word", "is_word", defArgs (top 17), defBody (top 17), defScope (top 17), [], []⟩
theorem ok_p_beneath_top : okSs (T.at_ true) 2 N_p_beneath_top (defScope (top 18)) 0 b_p_beneath_top (defBody (top 18)) = true := by decide +kernel
theorem sc_p_beneath_top : FnScope N_p_beneath_top ["text", "top"] (defScope (top 18)) := ⟨rfl, rfl, rfl, by decide +kernel, rfl, by decide +kernel, by decide +kernel⟩
def d_p_beneath_top : He.DefD := ⟨("beneath_top", none), "beneath_top", "beneath_top", defArgs (top 18), defBody (top 18), defScope (top 18), [], []⟩
theorem ok_p_read_name : okSs (T.at_ true) 3 N_p_read_name (defScope (top 19)) 0 b_p_read_name (defBody (top 19)) = true := by decide +kernel
theorem sc_p_read_name : FnScope N_p_read_name ["text", "top", "star"] (defScope (top 19)) := ⟨rfl, rfl, rfl, by decide +kernel, rfl, by decide +kernel, by decide +kernel⟩
def d_p_read_name : He.DefD := ⟨("read_name", none), "read_name", "read_name", defArgs (top 19), defBody (top 19), defScope (top 19), [.non, .bl false], []⟩
theorem ok_p_is_kind : okSs (T.at_ false) 4 N_p_is_kind (defScope (top 26)) 0 b_p_is_kind (defBody (top 26)) = true := by decide +kernel
theorem sc_p_is_kind : FnScope N_p_is_kind ["text"] (defScope (top 26)) := ⟨rfl, rfl, rfl, by decide +kernel, rfl, by decide +kernel, by decide +kernel⟩
def d_p_is_kind : He.DefD := ⟨("is_kind", none), "is_kind", "is_kind", defArgs (top 26), defBody (top 26), defScope (top 26), [], []⟩
theorem ok_p_is_value : okSs (T.at_ false) 5 N_p_is_value (defScope (top 27)) 0 b_p_is_value (defBody (top 27)) = true := by decide +kernel
theorem sc_p_is_value : FnScope N_p_is_value ["text"] (defScope (top 27)) := ⟨rfl, rfl, rfl, by decide +kernel, rfl, by decide +kernel, by decide +kernel⟩
def d_p_is_value : He.DefD := ⟨("is_value", none), "is_value", "is_value", defArgs (top 27), defBody (top 27), defScope (top 27), [], []⟩
theorem ok_p_read_life : okSs (T.at_ false) 6 N_p_read_life (defScope (top 28)) 0 b_p_read_life (defBody (top 28)) = true := by decide +kernel
theorem sc_p_read_life : FnScope N_p_read_life ["text"] (defScope (top 28)) := ⟨rfl, rfl, rfl, by decide +kernel, rfl, by decide +kernel, by decide +kernel⟩
def d_p_read_life : He.DefD := ⟨("read_life", none), "read_life", "read_life", defArgs (top 28), defBody (top 28), defScope (top 28), [], []⟩
theorem ok_p_is_passed_over : okSs (T.at_ false) 7 N_p_is_passed_over (defScope (top 31)) 0 b_p_is_passed_over (defBody (top 31)) = true := by decide +kernel
theorem sc_p_is_passed_over : FnScope N_p_is_passed_over ["line"] (defScope (top 31)) := ⟨rfl, rfl, rfl, by decide +kernel, rfl, by decide +kernel, by decide +kernel⟩
def d_p_is_passed_over : He.DefD := ⟨("is_passed_over", none), "is_passed_over", "is_passed_over", defArgs (top 31), defBody (top 31), defScope (top 31), [], []⟩
theorem ok_p_words_of : okSs (T.at_ false) 8 N_p_words_of (defScope (top 32)) 0 b_p_words_of (defBody (top 32)) = true := by decide +kernel
theorem sc_p_words_of : FnScope N_p_words_of ["line"] (defScope (top 32)) := ⟨rfl, rfl, rfl, by decide +kernel, rfl, by decide +kernel, by decide +kernel⟩
def d_p_words_of : He.DefD := ⟨("words_of", none), "words_of", "words_of", defArgs (top 32), defBody (top 32), defScope (top 32), [], []⟩
theorem ok_p_name_at : okX T 9 N_p_name_at (defScope (top 33)) (.cal 3 (.cons (.var 1) (.cons (.var 2) (.cons (.var 3) .nil)))) "NoName" "BadName" 0 (defBody (top 33)) = true := by decide +kernel
theorem sc_p_name_at : FnScope N_p_name_at ["number", "text", "top", "star"] (defScope (top 33)) := ⟨rfl, rfl, rfl, by decide +kernel, rfl, by decide +kernel, by decide +kernel⟩
def d_p_name_at : He.DefD := ⟨("name_at", none), "name_at", "name_at", defArgs (top 33), defBody (top 33), defScope (top 33), [], []⟩
theorem ok_p_life_at : okSs (T.at_ false) 10 N_p_life_at (defScope (top 34)) 0 b_p_life_at (defBody (top 34)) = true := by decide +kernel
theorem sc_p_life_at : FnScope N_p_life_at ["number", "text"] (defScope (top 34)) := ⟨rfl, rfl, rfl, by decide +kernel, rfl, by decide +kernel, by decide +kernel⟩
def d_p_life_at : He.DefD := ⟨("life_at", none), "life_at", "life_at", defArgs (top 34), defBody (top 34), defScope (top 34), [], []⟩
theorem ok_p_value_at : okSs (T.at_ false) 11 N_p_value_at (defScope (top 35)) 0 b_p_value_at (defBody (top 35)) = true := by decide +kernel
theorem sc_p_value_at : FnScope N_p_value_at ["number", "kind", "text", "top"] (defScope (top 35)) := ⟨rfl, rfl, rfl, by decide +kernel, rfl, by decide +kernel, by decide +kernel⟩
def d_p_value_at : He.DefD := ⟨("value_at", none), "value_at", "value_at", defArgs (top 35), defBody (top 35), defScope (top 35), [], []⟩
theorem ok_p_head_of : okSs (T.at_ false) 12 N_p_head_of (defScope (top 36)) 0 b_p_head_of (defBody (top 36)) = true := by decide +kernel
theorem sc_p_head_of : FnScope N_p_head_of ["number", "line"] (defScope (top 36)) := ⟨rfl, rfl, rfl, by decide +kernel, rfl, by decide +kernel, by decide +kernel⟩
def d_p_head_of : He.DefD := ⟨("head_of", none), "head_of", "head_of", defArgs (top 36), defBody (top 36), defScope (top 36), [], []⟩
theorem ok_p_parts_of : okSs (T.at_ false) 13 N_p_parts_of (defScope (top 37)) 0 b_p_parts_of (defBody (top 37)) = true := by decide +kernel
theorem sc_p_parts_of : FnScope N_p_parts_of ["number", "line", "top", "rows"] (defScope (top 37)) := ⟨rfl, rfl, rfl, by decide +kernel, rfl, by decide +kernel, by decide +kernel⟩
def d_p_parts_of : He.DefD := ⟨("parts_of", none), "parts_of", "parts_of", defArgs (top 37), defBody (top 37), defScope (top 37), [], []⟩
theorem ok_p_clashes : okSs (T.at_ false) 14 N_p_clashes (defScope (top 38)) 0 b_p_clashes (defBody (top 38)) = true := by decide +kernel
theorem sc_p_clashes : FnScope N_p_clashes ["row", "rows"] (defScope (top 38)) := ⟨rfl, rfl, rfl, by decide +kernel, rfl, by decide +kernel, by decide +kernel⟩
def d_p_clashes : He.DefD := ⟨("clashes", none), "clashes", "clashes", defArgs (top 38), defBody (top 38), defScope (top 38), [], []⟩
theorem ok_p_row_of : okSs (T.at_ false) 15 N_p_row_of (defScope (top 39)) 0 b_p_row_of (defBody (top 39)) = true := by decide +kernel
theorem sc_p_row_of : FnScope N_p_row_of ["number", "line", "top", "rows"] (defScope (top 39)) := ⟨rfl, rfl, rfl, by decide +kernel, rfl, by decide +kernel, by decide +kernel⟩
def d_p_row_of : He.DefD := ⟨("row_of", none), "row_of", "row_of", defArgs (top 39), defBody (top 39), defScope (top 39), [], []⟩
theorem ok_p_read_zone : okSs (T.at_ false) 16 N_p_read_zone (defScope (top 40)) 0 b_p_read_zone (defBody (top 40)) = true := by decide +kernel
theorem sc_p_read_zone : FnScope N_p_read_zone ["text"] (defScope (top 40)) := ⟨rfl, rfl, rfl, by decide +kernel, rfl, by decide +kernel, by decide +kernel⟩
def d_p_read_zone : He.DefD := ⟨("read_zone", none), "read_zone", "read_zone", defArgs (top 40), defBody (top 40), defScope (top 40), [], []⟩
theorem ok_l_cell_at : okSs (T.at_ false) 17 N_l_cell_at (defScope (top 42)) 0 b_l_cell_at (defBody (top 42)) = true := by decide +kernel
theorem sc_l_cell_at : FnScope N_l_cell_at ["_law_script", "_law_k"] (defScope (top 42)) := ⟨rfl, rfl, rfl, by decide +kernel, rfl, by decide +kernel, by decide +kernel⟩
def d_l_cell_at : He.DefD := ⟨("_law_cell_at", none), "_law_cell_at", "_law_cell_at", defArgs (top 42), defBody (top 42), defScope (top 42), [], []⟩
theorem ok_l_part : okSs (T.at_ false) 18 N_l_part (defScope (top 43)) 0 b_l_part (defBody (top 43)) = true := by decide +kernel
theorem sc_l_part : FnScope N_l_part ["_law_cell", "_law_k", "_law_many"] (defScope (top 43)) := ⟨rfl, rfl, rfl, by decide +kernel, rfl, by decide +kernel, by decide +kernel⟩
def d_l_part : He.DefD := ⟨("_law_part", none), "_law_part", "_law_part", defArgs (top 43), defBody (top 43), defScope (top 43), [], []⟩
theorem ok_l_words : okSs (T.at_ false) 19 N_l_words (defScope (top 44)) 0 b_l_words (defBody (top 44)) = true := by decide +kernel
theorem sc_l_words : FnScope N_l_words ["_law_one", "_law_other"] (defScope (top 44)) := ⟨rfl, rfl, rfl, by decide +kernel, rfl, by decide +kernel, by decide +kernel⟩
def d_l_words : He.DefD := ⟨("_law_words", none), "_law_words", "_law_words", defArgs (top 44), defBody (top 44), defScope (top 44), [], []⟩
theorem ok_l_below : okSs (T.at_ false) 20 N_l_below (defScope (top 45)) 0 b_l_below (defBody (top 45)) = true := by decide +kernel
theorem sc_l_below : FnScope N_l_below ["_law_words_here", "_law_cell", "_law_k", "_law_many"] (defScope (top 45)) := ⟨rfl, rfl, rfl, by decide +kernel, rfl, by decide +kernel, by decide +kernel⟩
def d_l_below : He.DefD := ⟨("_law_below", none), "_law_below", "_law_below", defArgs (top 45), defBody (top 45), defScope (top 45), [], []⟩
theorem ok_l_row : okSs (T.at_ false) 21 N_l_row (defScope (top 46)) 0 b_l_row (defBody (top 46)) = true := by decide +kernel
theorem sc_l_row : FnScope N_l_row ["_law_words_here", "_law_top", "_law_cell"] (defScope (top 46)) := ⟨rfl, rfl, rfl, by decide +kernel, rfl, by decide +kernel, by decide +kernel⟩
def d_l_row : He.DefD := ⟨("_law_row", none), "_law_row", "_law_row", defArgs (top 46), defBody (top 46), defScope (top 46), [], []⟩
theorem ok_l_fits : okSs (T.at_ false) 22 N_l_fits (defScope (top 47)) 0 b_l_fits (defBody (top 47)) = true := by decide +kernel
theorem sc_l_fits : FnScope N_l_fits ["_law_rows_here", "_law_row_here", "_law_top"] (defScope (top 47)) := ⟨rfl, rfl, rfl, by decide +kernel, rfl, by decide +kernel, by decide +kernel⟩
def d_l_fits : He.DefD := ⟨("_law_fits", none), "_law_fits", "_law_fits", defArgs (top 47), defBody (top 47), defScope (top 47), [], []⟩
theorem ok_l_rows : okSs (T.at_ false) 23 N_l_rows (defScope (top 48)) 0 b_l_rows (defBody (top 48)) = true := by decide +kernel
theorem sc_l_rows : FnScope N_l_rows ["_law_words_here", "_law_top", "_law_cells"] (defScope (top 48)) := ⟨rfl, rfl, rfl, by decide +kernel, rfl, by decide +kernel, by decide +kernel⟩
def d_l_rows : He.DefD := ⟨("_law_rows", none), "_law_rows", "_law_rows", defArgs (top 48), defBody (top 48), defScope (top 48), [], []⟩
theorem ok_l_name_text : okSs (T.at_ false) 24 N_l_name_text (defScope (top 49)) 0 b_l_name_text (defBody (top 49)) = true := by decide +kernel
theorem sc_l_name_text : FnScope N_l_name_text ["_law_name"] (defScope (top 49)) := ⟨rfl, rfl, rfl, by decide +kernel, rfl, by decide +kernel, by decide +kernel⟩
def d_l_name_text : He.DefD := ⟨("_law_name_text", none), "_law_name_text", "_law_name_text", defArgs (top 49), defBody (top 49), defScope (top 49), [], []⟩
theorem ok_l_line : okSs (T.at_ false) 25 N_l_line (defScope (top 50)) 0 b_l_line (defBody (top 50)) = true := by decide +kernel
theorem sc_l_line : FnScope N_l_line ["_law_row_here"] (defScope (top 50)) := ⟨rfl, rfl, rfl, by decide +kernel, rfl, by decide +kernel, by decide +kernel⟩
def d_l_line : He.DefD := ⟨("_law_line", none), "_law_line", "_law_line", defArgs (top 50), defBody (top 50), defScope (top 50), [], []⟩
theorem ok_l_bad_name : okSs (T.at_ false) 26 N_l_bad_name (defScope (top 51)) 0 b_l_bad_name (defBody (top 51)) = true := by decide +kernel
theorem sc_l_bad_name : FnScope N_l_bad_name ["_law_name", "_law_cell"] (defScope (top 51)) := ⟨rfl, rfl, rfl, by decide +kernel, rfl, by decide +kernel, by decide +kernel⟩
def d_l_bad_name : He.DefD := ⟨("_law_bad_name", none), "_law_bad_name", "_law_bad_name", defArgs (top 51), defBody (top 51), defScope (top 51), [], []⟩
theorem ok_l_bad_rows : okSs (T.at_ false) 27 N_l_bad_rows (defScope (top 52)) 0 b_l_bad_rows (defBody (top 52)) = true := by decide +kernel
theorem sc_l_bad_rows : FnScope N_l_bad_rows ["_law_name", "_law_cell"] (defScope (top 52)) := ⟨rfl, rfl, rfl, by decide +kernel, rfl, by decide +kernel, by decide +kernel⟩
def d_l_bad_rows : He.DefD := ⟨("_law_bad_rows", none), "_law_bad_rows", "_law_bad_rows", defArgs (top 52), defBody (top 52), defScope (top 52), [], []⟩
theorem ok_l_outside : okSs (T.at_ false) 28 N_l_outside (defScope (top 53)) 0 b_l_outside (defBody (top 53)) = true := by decide +kernel
theorem sc_l_outside : FnScope N_l_outside ["_law_words_here", "_law_top", "_law_cell"] (defScope (top 53)) := ⟨rfl, rfl, rfl, by decide +kernel, rfl, by decide +kernel, by decide +kernel⟩
def d_l_outside : He.DefD := ⟨("_law_outside", none), "_law_outside", "_law_outside", defArgs (top 53), defBody (top 53), defScope (top 53), [], []⟩
theorem ok_l_clash : okSs (T.at_ false) 29 N_l_clash (defScope (top 54)) 0 b_l_clash (defBody (top 54)) = true := by decide +kernel
theorem sc_l_clash : FnScope N_l_clash ["_law_rows_here", "_law_cell"] (defScope (top 54)) := ⟨rfl, rfl, rfl, by decide +kernel, rfl, by decide +kernel, by decide +kernel⟩
def d_l_clash : He.DefD := ⟨("_law_clash", none), "_law_clash", "_law_clash", defArgs (top 54), defBody (top 54), defScope (top 54), [], []⟩
theorem ok_l_wrong : okSs (T.at_ false) 30 N_l_wrong (defScope (top 55)) 0 b_l_wrong (defBody (top 55)) = true := by decide +kernel
theorem sc_l_wrong : FnScope N_l_wrong ["_law_words_here", "_law_top", "_law_rows_here", "_law_cell"] (defScope (top 55)) := ⟨rfl, rfl, rfl, by decide +kernel, rfl, by decide +kernel, by decide +kernel⟩
def d_l_wrong : He.DefD := ⟨("_law_wrong", none), "_law_wrong", "_law_wrong", defArgs (top 55), defBody (top 55), defScope (top 55), [], []⟩
theorem ok_l_wrong_first : okSs (T.at_ false) 31 N_l_wrong_first (defScope (top 56)) 0 b_l_wrong_first (defBody (top 56)) = true := by decide +kernel
theorem sc_l_wrong_first : FnScope N_l_wrong_first ["_law_top", "_law_cell"] (defScope (top 56)) := ⟨rfl, rfl, rfl, by decide +kernel, rfl, by decide +kernel, by decide +kernel⟩
def d_l_wrong_first : He.DefD := ⟨("_law_wrong_first", none), "_law_wrong_first", "_law_wrong_first", defArgs (top 56), defBody (top 56), defScope (top 56), [], []⟩
theorem ok_l_passed : okSs (T.at_ false) 32 N_l_passed (defScope (top 57)) 0 b_l_passed (defBody (top 57)) = true := by decide +kernel
theorem sc_l_passed : FnScope N_l_passed ["_law_many", "_law_cell"] (defScope (top 57)) := ⟨rfl, rfl, rfl, by decide +kernel, rfl, by decide +kernel, by decide +kernel⟩
def d_l_passed : He.DefD := ⟨("_law_passed", none), "_law_passed", "_law_passed", defArgs (top 57), defBody (top 57), defScope (top 57), [], []⟩
theorem ok_l_refused : okSs (T.at_ false) 33 N_l_refused (defScope (top 58)) 0 b_l_refused (defBody (top 58)) = true := by decide +kernel
theorem sc_l_refused : FnScope N_l_refused ["_law_text"] (defScope (top 58)) := ⟨rfl, rfl, rfl, by decide +kernel, rfl, by decide +kernel, by decide +kernel⟩
def d_l_refused : He.DefD := ⟨("_law_refused", none), "_law_refused", "_law_refused", defArgs (top 58), defBody (top 58), defScope (top 58), [], []⟩
theorem ok_l_due : okSs (T.at_ false) 34 N_l_due (defScope (top 59)) 0 b_l_due (defBody (top 59)) = true := by decide +kernel
theorem sc_l_due : FnScope N_l_due ["_law_number", "_law_way"] (defScope (top 59)) := ⟨rfl, rfl, rfl, by decide +kernel, rfl, by decide +kernel, by decide +kernel⟩
def d_l_due : He.DefD := ⟨("_law_due", none), "_law_due", "_law_due", defArgs (top 59), defBody (top 59), defScope (top 59), [], []⟩
theorem ok_l_is_refused : okSs (T.at_ false) 35 N_l_is_refused (defScope (top 60)) 0 b_l_is_refused (defBody (top 60)) = true := by decide +kernel
theorem sc_l_is_refused : FnScope N_l_is_refused ["_law_text", "_law_number", "_law_way"] (defScope (top 60)) := ⟨rfl, rfl, rfl, by decide +kernel, rfl, by decide +kernel, by decide +kernel⟩
def d_l_is_refused : He.DefD := ⟨("_law_is_refused", none), "_law_is_refused", "_law_is_refused", defArgs (top 60), defBody (top 60), defScope (top 60), [], []⟩
theorem ok_l_is_zone : okSs (T.at_ false) 36 N_l_is_zone (defScope (top 61)) 0 b_l_is_zone (defBody (top 61)) = true := by decide +kernel
theorem sc_l_is_zone : FnScope N_l_is_zone ["_law_found", "_law_top", "_law_life", "_law_rows_here"] (defScope (top 61)) := ⟨rfl, rfl, rfl, by decide +kernel, rfl, by decide +kernel, by decide +kernel⟩
def d_l_is_zone : He.DefD := ⟨("_law_is_zone", none), "_law_is_zone", "_law_is_zone", defArgs (top 61), defBody (top 61), defScope (top 61), [], []⟩
theorem ok_law : okSs (T.at_ false) 37 N_law (defScope (top 62)) 0 b_law (defBody (top 62)) = true := by decide +kernel
theorem sc_law : FnScope N_law ["_law_script"] (defScope (top 62)) := ⟨rfl, rfl, rfl, by decide +kernel, rfl, by decide +kernel, by decide +kernel⟩
def d_law : He.DefD := ⟨("law", none), "law", "law", defArgs (top 62), defBody (top 62), defScope (top 62), [], []⟩
def mI : Stmt := mth (top 6) 0
theorem ib : initB (defScope mI) (defBody mI) = true := by decide +kernel
theorem sc_init : FnScope [("self" : Str), ("row" : Str)] [("self" : Str), ("row" : Str)] (defScope mI) := ⟨rfl, rfl, rfl, by decide +kernel, rfl, by decide +kernel, by decide +kernel⟩
def d_init : He.DefD := ⟨("ZoneError", some "__init__"), "__init__", "ZoneError.__init__", defArgs mI, defBody mI, defScope mI, [], []⟩
def fn : List He.DefD := [d_p_at_or_beneath, d_p_is_word, d_p_beneath_top, d_p_read_name, d_p_is_kind, d_p_is_value, d_p_read_life, d_p_is_passed_over, d_p_words_of, d_p_name_at, d_p_life_at, d_p_value_at, d_p_head_of, d_p_parts_of, d_p_clashes, d_p_row_of, d_p_read_zone, d_l_cell_at, d_l_part, d_l_words, d_l_below, d_l_row, d_l_fits, d_l_rows, d_l_name_text, d_l_line, d_l_bad_name, d_l_bad_rows, d_l_outside, d_l_clash, d_l_wrong, d_l_wrong_first, d_l_passed, d_l_refused, d_l_due, d_l_is_refused, d_l_is_zone, d_law, d_init]
def fa : List He.Fa := [.glo "at_or_beneath", .glo "is_word", .glo "beneath_top", .glo "read_name", .glo "is_kind", .glo "is_value", .glo "read_life", .glo "is_passed_over", .glo "words_of", .glo "name_at", .glo "life_at", .glo "value_at", .glo "head_of", .glo "parts_of", .glo "clashes", .glo "row_of", .glo "read_zone", .glo "_law_cell_at", .glo "_law_part", .glo "_law_words", .glo "_law_below", .glo "_law_row", .glo "_law_fits", .glo "_law_rows", .glo "_law_name_text", .glo "_law_line", .glo "_law_bad_name", .glo "_law_bad_rows", .glo "_law_outside", .glo "_law_clash", .glo "_law_wrong", .glo "_law_wrong_first", .glo "_law_passed", .glo "_law_refused", .glo "_law_due", .glo "_law_is_refused", .glo "_law_is_zone", .glo "law", .free "len", .free "min", .free "max", .free "int", .free "str", .free "ord", .free "tuple", .free "list", .free "isinstance", .free "bool", .free "range", .free "any", .free "all", .free "sorted", .int "LONGEST" 12, .str "SIGNS" "abcdefghijklmnopqrstuvwxyz0123456789-", .int "DEEPEST" 10, .int "LONGEST_KIND" 8, .str "LETTERS" "abcdefghijklmnopqrstuvwxyz", .int "LONGEST_VALUE" 40, .int "LONGEST_LIFE" 9, .str "FIGURES" "0123456789", .glo "POINTING", .glo "NoName", .exc "NoName", .glo "BadName", .glo "BadRow", .glo "Outside", .glo "BadCut", .glo "Clash", .glo "ZoneError", .exm "NoName" "NoName" true, .exm "NoName" "ZoneError" false, .exm "BadName" "NoName" false, .exm "BadName" "ZoneError" true, .exm "BadRow" "NoName" false, .exm "BadRow" "ZoneError" true, .exm "Outside" "NoName" false, .exm "Outside" "ZoneError" true, .exm "BadCut" "NoName" false, .exm "BadCut" "ZoneError" true, .exm "Clash" "NoName" false, .exm "Clash" "ZoneError" true, .glo "BadRow", .glo "BadName", .glo "Outside", .glo "BadCut", .glo "Clash", .glo "WellError", .glo "NoName", .glo "NoKind", .glo "NoZone", .glo "NoDeed", .free "ValueError"]
def ex : List (PySem.W.Frag → Bool) := [fun K => excCB K (He.ga K "BadName"), fun K => excCB K (He.ga K "BadRow"), fun K => excCB K (He.ga K "Outside"), fun K => excCB K (He.ga K "BadCut"), fun K => excCB K (He.ga K "Clash"), fun K => kitB K (He.ga K "BadName") (.ref (He.ga K "BadRow")) false, fun K => kitB K (He.ga K "BadName") (.ref (He.ga K "BadName")) true, fun K => kitB K (He.ga K "BadName") (.ref (He.ga K "Outside")) false, fun K => kitB K (He.ga K "BadName") (.ref (He.ga K "BadCut")) false, fun K => kitB K (He.ga K "BadName") (.ref (He.ga K "Clash")) false, fun K => kitB K (He.ga K "BadName") (.ref (He.ga K "WellError")) true, fun K => kitB K (He.ga K "BadName") (.type "ValueError") true, fun K => kitB K (He.ga K "BadName") (.ref (He.ga K "NoName")) false, fun K => kitB K (He.ga K "BadName") (.ref (He.ga K "NoKind")) false, fun K => kitB K (He.ga K "BadName") (.ref (He.ga K "NoZone")) false, fun K => kitB K (He.ga K "BadName") (.ref (He.ga K "NoDeed")) false, fun K => kitB K (He.ga K "BadRow") (.ref (He.ga K "BadRow")) true, fun K => kitB K (He.ga K "BadRow") (.ref (He.ga K "BadName")) false, fun K => kitB K (He.ga K "BadRow") (.ref (He.ga K "Outside")) false, fun K => kitB K (He.ga K "BadRow") (.ref (He.ga K "BadCut")) false, fun K => kitB K (He.ga K "BadRow") (.ref (He.ga K "Clash")) false, fun K => kitB K (He.ga K "BadRow") (.ref (He.ga K "WellError")) true, fun K => kitB K (He.ga K "BadRow") (.type "ValueError") true, fun K => kitB K (He.ga K "BadRow") (.ref (He.ga K "NoName")) false, fun K => kitB K (He.ga K "BadRow") (.ref (He.ga K "NoKind")) false, fun K => kitB K (He.ga K "BadRow") (.ref (He.ga K "NoZone")) false, fun K => kitB K (He.ga K "BadRow") (.ref (He.ga K "NoDeed")) false, fun K => kitB K (He.ga K "Outside") (.ref (He.ga K "BadRow")) false, fun K => kitB K (He.ga K "Outside") (.ref (He.ga K "BadName")) false, fun K => kitB K (He.ga K "Outside") (.ref (He.ga K "Outside")) true, fun K => kitB K (He.ga K "Outside") (.ref (He.ga K "BadCut")) false, fun K => kitB K (He.ga K "Outside") (.ref (He.ga K "Clash")) false, fun K => kitB K (He.ga K "Outside") (.ref (He.ga K "WellError")) true, fun K => kitB K (He.ga K "Outside") (.type "ValueError") true, fun K => kitB K (He.ga K "Outside") (.ref (He.ga K "NoName")) false, fun K => kitB K (He.ga K "Outside") (.ref (He.ga K "NoKind")) false, fun K => kitB K (He.ga K "Outside") (.ref (He.ga K "NoZone")) false, fun K => kitB K (He.ga K "Outside") (.ref (He.ga K "NoDeed")) false, fun K => kitB K (He.ga K "BadCut") (.ref (He.ga K "BadRow")) false, fun K => kitB K (He.ga K "BadCut") (.ref (He.ga K "BadName")) false, fun K => kitB K (He.ga K "BadCut") (.ref (He.ga K "Outside")) false, fun K => kitB K (He.ga K "BadCut") (.ref (He.ga K "BadCut")) true, fun K => kitB K (He.ga K "BadCut") (.ref (He.ga K "Clash")) false, fun K => kitB K (He.ga K "BadCut") (.ref (He.ga K "WellError")) true, fun K => kitB K (He.ga K "BadCut") (.type "ValueError") true, fun K => kitB K (He.ga K "BadCut") (.ref (He.ga K "NoName")) false, fun K => kitB K (He.ga K "BadCut") (.ref (He.ga K "NoKind")) false, fun K => kitB K (He.ga K "BadCut") (.ref (He.ga K "NoZone")) false, fun K => kitB K (He.ga K "BadCut") (.ref (He.ga K "NoDeed")) false, fun K => kitB K (He.ga K "Clash") (.ref (He.ga K "BadRow")) false, fun K => kitB K (He.ga K "Clash") (.ref (He.ga K "BadName")) false, fun K => kitB K (He.ga K "Clash") (.ref (He.ga K "Outside")) false, fun K => kitB K (He.ga K "Clash") (.ref (He.ga K "BadCut")) false, fun K => kitB K (He.ga K "Clash") (.ref (He.ga K "Clash")) true, fun K => kitB K (He.ga K "Clash") (.ref (He.ga K "WellError")) true, fun K => kitB K (He.ga K "Clash") (.type "ValueError") true, fun K => kitB K (He.ga K "Clash") (.ref (He.ga K "NoName")) false, fun K => kitB K (He.ga K "Clash") (.ref (He.ga K "NoKind")) false, fun K => kitB K (He.ga K "Clash") (.ref (He.ga K "NoZone")) false, fun K => kitB K (He.ga K "Clash") (.ref (He.ga K "NoDeed")) false, fun K => rwB K (He.ga K "BadName") (He.fAd K ("ZoneError", some "__init__")), fun K => rwB K (He.ga K "BadRow") (He.fAd K ("ZoneError", some "__init__")), fun K => rwB K (He.ga K "Outside") (He.fAd K ("ZoneError", some "__init__")), fun K => rwB K (He.ga K "BadCut") (He.fAd K ("ZoneError", some "__init__")), fun K => rwB K (He.ga K "Clash") (He.fAd K ("ZoneError", some "__init__")), fun K => rwB K (He.ga K "ZoneError") (He.fAd K ("ZoneError", some "__init__")), fun K => tupSB K "POINTING" ["else", "down"]]
def loose0 : List Str := ["WellError", "NoName", "NoKind", "NoZone", "NoDeed", "ZoneError", "BadRow", "BadName", "Outside", "BadCut", "Clash", "SIGNS", "LONGEST", "DEEPEST", "at_or_beneath", "is_word", "beneath_top", "read_name", "LETTERS", "FIGURES"]
def loose1 : List Str := ["LONGEST_KIND", "LONGEST_VALUE", "LONGEST_LIFE", "is_kind", "is_value", "read_life", "POINTING", "is_passed_over", "words_of", "name_at", "life_at", "value_at", "head_of", "parts_of", "clashes", "row_of", "read_zone", "_law_cell_at", "_law_part", "_law_words"]
def loose2 : List Str := ["_law_below", "_law_row", "_law_fits", "_law_rows", "_law_name_text", "_law_line", "_law_bad_name", "_law_bad_rows", "_law_outside", "_law_clash", "_law_wrong", "_law_wrong_first", "_law_passed", "_law_refused", "_law_due", "_law_is_refused", "_law_is_zone"]
def loose : List Str := loose0 ++ loose1 ++ loose2
abbrev R : PySem.W.OpenRow := PySem.W.OpenLaw.row PySem.Challenge.rw_namewell_k14_a_wrong_line
abbrev hk : PySem.W.Hook := hookX 4 fa fn ex
def ob (s : PySem.W.SharedT) : AlX := obsXG 4 fa fn ex (HandSHeadRun.getT s)
theorem ob_eq (s : PySem.W.SharedT) : ob s = hk.obs s.abs := obsXG_eq (HandSHeadRun.getT_eq s)
theorem run (w : World) : HandSHeadRun.RunEq R (PySem.W.view R.prog [62]) hk ob 6700 loose w := by
  intro os
  kernel_rfl
theorem facts {P : Program} {w : World} {K : PySem.W.Frag} {h : Heap} {mg : Str → Option Value} {f : Addr} (X : K.In h) (G : h.Ns mainGlobals mg) (hfa : mg ("law" : Str) = some (.ref f)) (c : He.SaysD fa fn K) (cx : exAll ex K = true) :
    ∃ fd : FuncData, (∀ (s : Shared) (v : Value), BindsTo s fd ⟨[v], []⟩ [("_law_script", v)]) ∧ ∀ base : Heap, K.In base → base.Ns mainGlobals mg → FnOk P w K mg base CX0 38 f fd ["_law_script"] (fun vs H Q _ => spD K mg g_law f_law vs H Q (fun _ _ _ => False)) := by
  obtain ⟨fd0, F0⟩ := c.def_ 0 (d := d_p_at_or_beneath) rfl
  obtain ⟨fd1, F1⟩ := c.def_ 1 (d := d_p_is_word) rfl
  obtain ⟨fd2, F2⟩ := c.def_ 2 (d := d_p_beneath_top) rfl
  obtain ⟨fd3, F3⟩ := c.def_ 3 (d := d_p_read_name) rfl
  obtain ⟨fd4, F4⟩ := c.def_ 4 (d := d_p_is_kind) rfl
  obtain ⟨fd5, F5⟩ := c.def_ 5 (d := d_p_is_value) rfl
  obtain ⟨fd6, F6⟩ := c.def_ 6 (d := d_p_read_life) rfl
  obtain ⟨fd7, F7⟩ := c.def_ 7 (d := d_p_is_passed_over) rfl
  obtain ⟨fd8, F8⟩ := c.def_ 8 (d := d_p_words_of) rfl
  obtain ⟨fd9, F9⟩ := c.def_ 9 (d := d_p_name_at) rfl
  obtain ⟨fd10, F10⟩ := c.def_ 10 (d := d_p_life_at) rfl
  obtain ⟨fd11, F11⟩ := c.def_ 11 (d := d_p_value_at) rfl
  obtain ⟨fd12, F12⟩ := c.def_ 12 (d := d_p_head_of) rfl
  obtain ⟨fd13, F13⟩ := c.def_ 13 (d := d_p_parts_of) rfl
  obtain ⟨fd14, F14⟩ := c.def_ 14 (d := d_p_clashes) rfl
  obtain ⟨fd15, F15⟩ := c.def_ 15 (d := d_p_row_of) rfl
  obtain ⟨fd16, F16⟩ := c.def_ 16 (d := d_p_read_zone) rfl
  obtain ⟨fd17, F17⟩ := c.def_ 17 (d := d_l_cell_at) rfl
  obtain ⟨fd18, F18⟩ := c.def_ 18 (d := d_l_part) rfl
  obtain ⟨fd19, F19⟩ := c.def_ 19 (d := d_l_words) rfl
  obtain ⟨fd20, F20⟩ := c.def_ 20 (d := d_l_below) rfl
  obtain ⟨fd21, F21⟩ := c.def_ 21 (d := d_l_row) rfl
  obtain ⟨fd22, F22⟩ := c.def_ 22 (d := d_l_fits) rfl
  obtain ⟨fd23, F23⟩ := c.def_ 23 (d := d_l_rows) rfl
  obtain ⟨fd24, F24⟩ := c.def_ 24 (d := d_l_name_text) rfl
  obtain ⟨fd25, F25⟩ := c.def_ 25 (d := d_l_line) rfl
  obtain ⟨fd26, F26⟩ := c.def_ 26 (d := d_l_bad_name) rfl
  obtain ⟨fd27, F27⟩ := c.def_ 27 (d := d_l_bad_rows) rfl
  obtain ⟨fd28, F28⟩ := c.def_ 28 (d := d_l_outside) rfl
  obtain ⟨fd29, F29⟩ := c.def_ 29 (d := d_l_clash) rfl
  obtain ⟨fd30, F30⟩ := c.def_ 30 (d := d_l_wrong) rfl
  obtain ⟨fd31, F31⟩ := c.def_ 31 (d := d_l_wrong_first) rfl
  obtain ⟨fd32, F32⟩ := c.def_ 32 (d := d_l_passed) rfl
  obtain ⟨fd33, F33⟩ := c.def_ 33 (d := d_l_refused) rfl
  obtain ⟨fd34, F34⟩ := c.def_ 34 (d := d_l_due) rfl
  obtain ⟨fd35, F35⟩ := c.def_ 35 (d := d_l_is_refused) rfl
  obtain ⟨fd36, F36⟩ := c.def_ 36 (d := d_l_is_zone) rfl
  obtain ⟨fd37, F37⟩ := c.def_ 37 (d := d_law) rfl
  have e := hfa.symm.trans (He.glo_ok X G (c.fact 37 (f := .glo "law") rfl))
  cases e
  have b := FunD.bindsA (ps := ["_law_script"]) F37 fun _ _ _ _ _ _ us hl => match us, hl with | [_], _ => rfl
  obtain ⟨fdI, FI⟩ := c.def_ 38 (d := d_init) rfl
  have bI : Binds K fdI [("self" : Str), ("row" : Str)] [] := FI.bindsN fun _ _ _ _ _ _ us hl => match us, hl with | [_, _], _ => rfl
  refine ⟨fd37, fun s v => b s [v] rfl, fun base _ _ => ?_⟩
  have hI := init_fn (P := P) (w := w) (mg := mg) (base := base) FI sc_init ib
  have w0 : Gw P w K mg base T P0 0 := ⟨fun k sg h => absurd h (Nat.not_lt_zero k), fun k x h => ?_, fun b hb => ?_, fun cc hc => ?_, fun cc cy r hr => ?_, fun cc cy r hr => ?_, fun cc hc => ?_⟩
  rotate_left
  · match k, h with
    | 0, h => cases h; obtain ⟨t, e⟩ := He.int_ok X G (x := "LONGEST") (c.fact 52 (f := .int "LONGEST" 12) rfl); exact ⟨_, .int 12, e, ⟨_, rfl⟩, fun G => .int _⟩
    | 1, h => cases h; obtain ⟨t, e⟩ := He.str_ok X G (x := "SIGNS") (z := "abcdefghijklmnopqrstuvwxyz0123456789-") (c.fact 53 rfl); exact ⟨_, .str "abcdefghijklmnopqrstuvwxyz0123456789-", e, ⟨_, rfl⟩, fun G => .str _⟩
    | 2, h => cases h; obtain ⟨t, e⟩ := He.int_ok X G (x := "DEEPEST") (c.fact 54 (f := .int "DEEPEST" 10) rfl); exact ⟨_, .int 10, e, ⟨_, rfl⟩, fun G => .int _⟩
    | 3, h => cases h; obtain ⟨t, e⟩ := He.int_ok X G (x := "LONGEST_KIND") (c.fact 55 (f := .int "LONGEST_KIND" 8) rfl); exact ⟨_, .int 8, e, ⟨_, rfl⟩, fun G => .int _⟩
    | 4, h => cases h; obtain ⟨t, e⟩ := He.str_ok X G (x := "LETTERS") (z := "abcdefghijklmnopqrstuvwxyz") (c.fact 56 rfl); exact ⟨_, .str "abcdefghijklmnopqrstuvwxyz", e, ⟨_, rfl⟩, fun G => .str _⟩
    | 5, h => cases h; obtain ⟨t, e⟩ := He.int_ok X G (x := "LONGEST_VALUE") (c.fact 57 (f := .int "LONGEST_VALUE" 40) rfl); exact ⟨_, .int 40, e, ⟨_, rfl⟩, fun G => .int _⟩
    | 6, h => cases h; obtain ⟨t, e⟩ := He.int_ok X G (x := "LONGEST_LIFE") (c.fact 58 (f := .int "LONGEST_LIFE" 9) rfl); exact ⟨_, .int 9, e, ⟨_, rfl⟩, fun G => .int _⟩
    | 7, h => cases h; obtain ⟨t, e⟩ := He.str_ok X G (x := "FIGURES") (z := "0123456789") (c.fact 59 rfl); exact ⟨_, .str "0123456789", e, ⟨_, rfl⟩, fun G => .str _⟩
    | 8, h => cases h; exact tupSB_ok X G (zs := ["else", "down"]) (exAll_at cx 66 rfl)
    | k + 9, h => cases h
  · simp only [bltN, List.mem_cons, List.not_mem_nil, or_false] at hb
    rcases hb with rfl | rfl | rfl | rfl | rfl | rfl | rfl | rfl | rfl | rfl | rfl | rfl | rfl | rfl
    · exact He.free_ok X G (c.fact 38 (f := .free "len") rfl)
    · exact He.free_ok X G (c.fact 39 (f := .free "min") rfl)
    · exact He.free_ok X G (c.fact 40 (f := .free "max") rfl)
    · exact He.free_ok X G (c.fact 41 (f := .free "int") rfl)
    · exact He.free_ok X G (c.fact 42 (f := .free "str") rfl)
    · exact He.free_ok X G (c.fact 43 (f := .free "ord") rfl)
    · exact He.free_ok X G (c.fact 44 (f := .free "tuple") rfl)
    · exact He.free_ok X G (c.fact 45 (f := .free "list") rfl)
    · exact He.free_ok X G (c.fact 46 (f := .free "isinstance") rfl)
    · exact He.free_ok X G (c.fact 47 (f := .free "bool") rfl)
    · exact He.free_ok X G (c.fact 48 (f := .free "range") rfl)
    · exact He.free_ok X G (c.fact 49 (f := .free "any") rfl)
    · exact He.free_ok X G (c.fact 50 (f := .free "all") rfl)
    · exact He.free_ok X G (c.fact 51 (f := .free "sorted") rfl)
  · simp only [T, List.mem_cons, List.not_mem_nil, or_false] at hc
    rcases hc with rfl
    · obtain ⟨a1, a2, a3, a4⟩ := He.exc_ok (x := "NoName") (c.fact 62 rfl)
      exact ⟨_, He.glo_ok X G (c.fact 61 (f := .glo "NoName") rfl), ⟨a1, a2, a3, a4⟩⟩
  · refine xm_of (l := xmL) (p := fun c c' r => ∃ C C', mg c = some (.ref C) ∧ mg c' = some (.ref C') ∧ PySem.W.exmOne K (.ref C) (.ref C') = some r) hr ?_
    intro q hq
    simp only [xmL, List.mem_cons, List.not_mem_nil, or_false] at hq
    rcases hq with rfl | rfl | rfl | rfl | rfl | rfl | rfl | rfl | rfl | rfl | rfl | rfl
    · exact ⟨_, _, He.glo_ok X G (c.fact 61 (f := .glo "NoName") rfl), He.glo_ok X G (c.fact 61 (f := .glo "NoName") rfl), He.exm_ok (x := "NoName") (y := "NoName") (c.fact 69 rfl)⟩
    · exact ⟨_, _, He.glo_ok X G (c.fact 61 (f := .glo "NoName") rfl), He.glo_ok X G (c.fact 68 (f := .glo "ZoneError") rfl), He.exm_ok (x := "NoName") (y := "ZoneError") (c.fact 70 rfl)⟩
    · exact ⟨_, _, He.glo_ok X G (c.fact 63 (f := .glo "BadName") rfl), He.glo_ok X G (c.fact 61 (f := .glo "NoName") rfl), He.exm_ok (x := "BadName") (y := "NoName") (c.fact 71 rfl)⟩
    · exact ⟨_, _, He.glo_ok X G (c.fact 63 (f := .glo "BadName") rfl), He.glo_ok X G (c.fact 68 (f := .glo "ZoneError") rfl), He.exm_ok (x := "BadName") (y := "ZoneError") (c.fact 72 rfl)⟩
    · exact ⟨_, _, He.glo_ok X G (c.fact 64 (f := .glo "BadRow") rfl), He.glo_ok X G (c.fact 61 (f := .glo "NoName") rfl), He.exm_ok (x := "BadRow") (y := "NoName") (c.fact 73 rfl)⟩
    · exact ⟨_, _, He.glo_ok X G (c.fact 64 (f := .glo "BadRow") rfl), He.glo_ok X G (c.fact 68 (f := .glo "ZoneError") rfl), He.exm_ok (x := "BadRow") (y := "ZoneError") (c.fact 74 rfl)⟩
    · exact ⟨_, _, He.glo_ok X G (c.fact 65 (f := .glo "Outside") rfl), He.glo_ok X G (c.fact 61 (f := .glo "NoName") rfl), He.exm_ok (x := "Outside") (y := "NoName") (c.fact 75 rfl)⟩
    · exact ⟨_, _, He.glo_ok X G (c.fact 65 (f := .glo "Outside") rfl), He.glo_ok X G (c.fact 68 (f := .glo "ZoneError") rfl), He.exm_ok (x := "Outside") (y := "ZoneError") (c.fact 76 rfl)⟩
    · exact ⟨_, _, He.glo_ok X G (c.fact 66 (f := .glo "BadCut") rfl), He.glo_ok X G (c.fact 61 (f := .glo "NoName") rfl), He.exm_ok (x := "BadCut") (y := "NoName") (c.fact 77 rfl)⟩
    · exact ⟨_, _, He.glo_ok X G (c.fact 66 (f := .glo "BadCut") rfl), He.glo_ok X G (c.fact 68 (f := .glo "ZoneError") rfl), He.exm_ok (x := "BadCut") (y := "ZoneError") (c.fact 78 rfl)⟩
    · exact ⟨_, _, He.glo_ok X G (c.fact 67 (f := .glo "Clash") rfl), He.glo_ok X G (c.fact 61 (f := .glo "NoName") rfl), He.exm_ok (x := "Clash") (y := "NoName") (c.fact 79 rfl)⟩
    · exact ⟨_, _, He.glo_ok X G (c.fact 67 (f := .glo "Clash") rfl), He.glo_ok X G (c.fact 68 (f := .glo "ZoneError") rfl), He.exm_ok (x := "Clash") (y := "ZoneError") (c.fact 80 rfl)⟩
  · refine xm_of (l := xiL) (p := IssK K mg) hr ?_
    intro q hq
    simp only [xiL, List.mem_cons, List.not_mem_nil, or_false] at hq
    rcases hq with rfl | rfl | rfl | rfl | rfl | rfl | rfl | rfl | rfl | rfl | rfl | rfl | rfl | rfl | rfl | rfl | rfl | rfl | rfl | rfl | rfl | rfl | rfl | rfl | rfl | rfl | rfl | rfl | rfl | rfl | rfl | rfl | rfl | rfl | rfl | rfl | rfl | rfl | rfl | rfl | rfl | rfl | rfl | rfl | rfl | rfl | rfl | rfl | rfl | rfl | rfl | rfl | rfl | rfl | rfl
    · exact ⟨_, He.glo_ok X G (c.fact 63 (f := .glo "BadName") rfl), (excCB_ok (exAll_at cx 0 rfl)).1, (excCB_ok (exAll_at cx 0 rfl)).2, .inl ⟨_, He.glo_ok X G (c.fact 81 (f := .glo "BadRow") rfl), kitB_ok (exAll_at cx 5 rfl)⟩⟩
    · exact ⟨_, He.glo_ok X G (c.fact 63 (f := .glo "BadName") rfl), (excCB_ok (exAll_at cx 0 rfl)).1, (excCB_ok (exAll_at cx 0 rfl)).2, .inl ⟨_, He.glo_ok X G (c.fact 82 (f := .glo "BadName") rfl), kitB_ok (exAll_at cx 6 rfl)⟩⟩
    · exact ⟨_, He.glo_ok X G (c.fact 63 (f := .glo "BadName") rfl), (excCB_ok (exAll_at cx 0 rfl)).1, (excCB_ok (exAll_at cx 0 rfl)).2, .inl ⟨_, He.glo_ok X G (c.fact 83 (f := .glo "Outside") rfl), kitB_ok (exAll_at cx 7 rfl)⟩⟩
    · exact ⟨_, He.glo_ok X G (c.fact 63 (f := .glo "BadName") rfl), (excCB_ok (exAll_at cx 0 rfl)).1, (excCB_ok (exAll_at cx 0 rfl)).2, .inl ⟨_, He.glo_ok X G (c.fact 84 (f := .glo "BadCut") rfl), kitB_ok (exAll_at cx 8 rfl)⟩⟩
    · exact ⟨_, He.glo_ok X G (c.fact 63 (f := .glo "BadName") rfl), (excCB_ok (exAll_at cx 0 rfl)).1, (excCB_ok (exAll_at cx 0 rfl)).2, .inl ⟨_, He.glo_ok X G (c.fact 85 (f := .glo "Clash") rfl), kitB_ok (exAll_at cx 9 rfl)⟩⟩
    · exact ⟨_, He.glo_ok X G (c.fact 63 (f := .glo "BadName") rfl), (excCB_ok (exAll_at cx 0 rfl)).1, (excCB_ok (exAll_at cx 0 rfl)).2, .inl ⟨_, He.glo_ok X G (c.fact 86 (f := .glo "WellError") rfl), kitB_ok (exAll_at cx 10 rfl)⟩⟩
    · exact ⟨_, He.glo_ok X G (c.fact 63 (f := .glo "BadName") rfl), (excCB_ok (exAll_at cx 0 rfl)).1, (excCB_ok (exAll_at cx 0 rfl)).2, .inr ⟨rfl, He.free_ok X G (c.fact 91 (f := .free "ValueError") rfl), kitB_ok (exAll_at cx 11 rfl)⟩⟩
    · exact ⟨_, He.glo_ok X G (c.fact 63 (f := .glo "BadName") rfl), (excCB_ok (exAll_at cx 0 rfl)).1, (excCB_ok (exAll_at cx 0 rfl)).2, .inl ⟨_, He.glo_ok X G (c.fact 87 (f := .glo "NoName") rfl), kitB_ok (exAll_at cx 12 rfl)⟩⟩
    · exact ⟨_, He.glo_ok X G (c.fact 63 (f := .glo "BadName") rfl), (excCB_ok (exAll_at cx 0 rfl)).1, (excCB_ok (exAll_at cx 0 rfl)).2, .inl ⟨_, He.glo_ok X G (c.fact 88 (f := .glo "NoKind") rfl), kitB_ok (exAll_at cx 13 rfl)⟩⟩
    · exact ⟨_, He.glo_ok X G (c.fact 63 (f := .glo "BadName") rfl), (excCB_ok (exAll_at cx 0 rfl)).1, (excCB_ok (exAll_at cx 0 rfl)).2, .inl ⟨_, He.glo_ok X G (c.fact 89 (f := .glo "NoZone") rfl), kitB_ok (exAll_at cx 14 rfl)⟩⟩
    · exact ⟨_, He.glo_ok X G (c.fact 63 (f := .glo "BadName") rfl), (excCB_ok (exAll_at cx 0 rfl)).1, (excCB_ok (exAll_at cx 0 rfl)).2, .inl ⟨_, He.glo_ok X G (c.fact 90 (f := .glo "NoDeed") rfl), kitB_ok (exAll_at cx 15 rfl)⟩⟩
    · exact ⟨_, He.glo_ok X G (c.fact 64 (f := .glo "BadRow") rfl), (excCB_ok (exAll_at cx 1 rfl)).1, (excCB_ok (exAll_at cx 1 rfl)).2, .inl ⟨_, He.glo_ok X G (c.fact 81 (f := .glo "BadRow") rfl), kitB_ok (exAll_at cx 16 rfl)⟩⟩
    · exact ⟨_, He.glo_ok X G (c.fact 64 (f := .glo "BadRow") rfl), (excCB_ok (exAll_at cx 1 rfl)).1, (excCB_ok (exAll_at cx 1 rfl)).2, .inl ⟨_, He.glo_ok X G (c.fact 82 (f := .glo "BadName") rfl), kitB_ok (exAll_at cx 17 rfl)⟩⟩
    · exact ⟨_, He.glo_ok X G (c.fact 64 (f := .glo "BadRow") rfl), (excCB_ok (exAll_at cx 1 rfl)).1, (excCB_ok (exAll_at cx 1 rfl)).2, .inl ⟨_, He.glo_ok X G (c.fact 83 (f := .glo "Outside") rfl), kitB_ok (exAll_at cx 18 rfl)⟩⟩
    · exact ⟨_, He.glo_ok X G (c.fact 64 (f := .glo "BadRow") rfl), (excCB_ok (exAll_at cx 1 rfl)).1, (excCB_ok (exAll_at cx 1 rfl)).2, .inl ⟨_, He.glo_ok X G (c.fact 84 (f := .glo "BadCut") rfl), kitB_ok (exAll_at cx 19 rfl)⟩⟩
    · exact ⟨_, He.glo_ok X G (c.fact 64 (f := .glo "BadRow") rfl), (excCB_ok (exAll_at cx 1 rfl)).1, (excCB_ok (exAll_at cx 1 rfl)).2, .inl ⟨_, He.glo_ok X G (c.fact 85 (f := .glo "Clash") rfl), kitB_ok (exAll_at cx 20 rfl)⟩⟩
    · exact ⟨_, He.glo_ok X G (c.fact 64 (f := .glo "BadRow") rfl), (excCB_ok (exAll_at cx 1 rfl)).1, (excCB_ok (exAll_at cx 1 rfl)).2, .inl ⟨_, He.glo_ok X G (c.fact 86 (f := .glo "WellError") rfl), kitB_ok (exAll_at cx 21 rfl)⟩⟩
    · exact ⟨_, He.glo_ok X G (c.fact 64 (f := .glo "BadRow") rfl), (excCB_ok (exAll_at cx 1 rfl)).1, (excCB_ok (exAll_at cx 1 rfl)).2, .inr ⟨rfl, He.free_ok X G (c.fact 91 (f := .free "ValueError") rfl), kitB_ok (exAll_at cx 22 rfl)⟩⟩
    · exact ⟨_, He.glo_ok X G (c.fact 64 (f := .glo "BadRow") rfl), (excCB_ok (exAll_at cx 1 rfl)).1, (excCB_ok (exAll_at cx 1 rfl)).2, .inl ⟨_, He.glo_ok X G (c.fact 87 (f := .glo "NoName") rfl), kitB_ok (exAll_at cx 23 rfl)⟩⟩
    · exact ⟨_, He.glo_ok X G (c.fact 64 (f := .glo "BadRow") rfl), (excCB_ok (exAll_at cx 1 rfl)).1, (excCB_ok (exAll_at cx 1 rfl)).2, .inl ⟨_, He.glo_ok X G (c.fact 88 (f := .glo "NoKind") rfl), kitB_ok (exAll_at cx 24 rfl)⟩⟩
    · exact ⟨_, He.glo_ok X G (c.fact 64 (f := .glo "BadRow") rfl), (excCB_ok (exAll_at cx 1 rfl)).1, (excCB_ok (exAll_at cx 1 rfl)).2, .inl ⟨_, He.glo_ok X G (c.fact 89 (f := .glo "NoZone") rfl), kitB_ok (exAll_at cx 25 rfl)⟩⟩
    · exact ⟨_, He.glo_ok X G (c.fact 64 (f := .glo "BadRow") rfl), (excCB_ok (exAll_at cx 1 rfl)).1, (excCB_ok (exAll_at cx 1 rfl)).2, .inl ⟨_, He.glo_ok X G (c.fact 90 (f := .glo "NoDeed") rfl), kitB_ok (exAll_at cx 26 rfl)⟩⟩
    · exact ⟨_, He.glo_ok X G (c.fact 65 (f := .glo "Outside") rfl), (excCB_ok (exAll_at cx 2 rfl)).1, (excCB_ok (exAll_at cx 2 rfl)).2, .inl ⟨_, He.glo_ok X G (c.fact 81 (f := .glo "BadRow") rfl), kitB_ok (exAll_at cx 27 rfl)⟩⟩
    · exact ⟨_, He.glo_ok X G (c.fact 65 (f := .glo "Outside") rfl), (excCB_ok (exAll_at cx 2 rfl)).1, (excCB_ok (exAll_at cx 2 rfl)).2, .inl ⟨_, He.glo_ok X G (c.fact 82 (f := .glo "BadName") rfl), kitB_ok (exAll_at cx 28 rfl)⟩⟩
    · exact ⟨_, He.glo_ok X G (c.fact 65 (f := .glo "Outside") rfl), (excCB_ok (exAll_at cx 2 rfl)).1, (excCB_ok (exAll_at cx 2 rfl)).2, .inl ⟨_, He.glo_ok X G (c.fact 83 (f := .glo "Outside") rfl), kitB_ok (exAll_at cx 29 rfl)⟩⟩
    · exact ⟨_, He.glo_ok X G (c.fact 65 (f := .glo "Outside") rfl), (excCB_ok (exAll_at cx 2 rfl)).1, (excCB_ok (exAll_at cx 2 rfl)).2, .inl ⟨_, He.glo_ok X G (c.fact 84 (f := .glo "BadCut") rfl), kitB_ok (exAll_at cx 30 rfl)⟩⟩
    · exact ⟨_, He.glo_ok X G (c.fact 65 (f := .glo "Outside") rfl), (excCB_ok (exAll_at cx 2 rfl)).1, (excCB_ok (exAll_at cx 2 rfl)).2, .inl ⟨_, He.glo_ok X G (c.fact 85 (f := .glo "Clash") rfl), kitB_ok (exAll_at cx 31 rfl)⟩⟩
    · exact ⟨_, He.glo_ok X G (c.fact 65 (f := .glo "Outside") rfl), (excCB_ok (exAll_at cx 2 rfl)).1, (excCB_ok (exAll_at cx 2 rfl)).2, .inl ⟨_, He.glo_ok X G (c.fact 86 (f := .glo "WellError") rfl), kitB_ok (exAll_at cx 32 rfl)⟩⟩
    · exact ⟨_, He.glo_ok X G (c.fact 65 (f := .glo "Outside") rfl), (excCB_ok (exAll_at cx 2 rfl)).1, (excCB_ok (exAll_at cx 2 rfl)).2, .inr ⟨rfl, He.free_ok X G (c.fact 91 (f := .free "ValueError") rfl), kitB_ok (exAll_at cx 33 rfl)⟩⟩
    · exact ⟨_, He.glo_ok X G (c.fact 65 (f := .glo "Outside") rfl), (excCB_ok (exAll_at cx 2 rfl)).1, (excCB_ok (exAll_at cx 2 rfl)).2, .inl ⟨_, He.glo_ok X G (c.fact 87 (f := .glo "NoName") rfl), kitB_ok (exAll_at cx 34 rfl)⟩⟩
    · exact ⟨_, He.glo_ok X G (c.fact 65 (f := .glo "Outside") rfl), (excCB_ok (exAll_at cx 2 rfl)).1, (excCB_ok (exAll_at cx 2 rfl)).2, .inl ⟨_, He.glo_ok X G (c.fact 88 (f := .glo "NoKind") rfl), kitB_ok (exAll_at cx 35 rfl)⟩⟩
    · exact ⟨_, He.glo_ok X G (c.fact 65 (f := .glo "Outside") rfl), (excCB_ok (exAll_at cx 2 rfl)).1, (excCB_ok (exAll_at cx 2 rfl)).2, .inl ⟨_, He.glo_ok X G (c.fact 89 (f := .glo "NoZone") rfl), kitB_ok (exAll_at cx 36 rfl)⟩⟩
    · exact ⟨_, He.glo_ok X G (c.fact 65 (f := .glo "Outside") rfl), (excCB_ok (exAll_at cx 2 rfl)).1, (excCB_ok (exAll_at cx 2 rfl)).2, .inl ⟨_, He.glo_ok X G (c.fact 90 (f := .glo "NoDeed") rfl), kitB_ok (exAll_at cx 37 rfl)⟩⟩
    · exact ⟨_, He.glo_ok X G (c.fact 66 (f := .glo "BadCut") rfl), (excCB_ok (exAll_at cx 3 rfl)).1, (excCB_ok (exAll_at cx 3 rfl)).2, .inl ⟨_, He.glo_ok X G (c.fact 81 (f := .glo "BadRow") rfl), kitB_ok (exAll_at cx 38 rfl)⟩⟩
    · exact ⟨_, He.glo_ok X G (c.fact 66 (f := .glo "BadCut") rfl), (excCB_ok (exAll_at cx 3 rfl)).1, (excCB_ok (exAll_at cx 3 rfl)).2, .inl ⟨_, He.glo_ok X G (c.fact 82 (f := .glo "BadName") rfl), kitB_ok (exAll_at cx 39 rfl)⟩⟩
    · exact ⟨_, He.glo_ok X G (c.fact 66 (f := .glo "BadCut") rfl), (excCB_ok (exAll_at cx 3 rfl)).1, (excCB_ok (exAll_at cx 3 rfl)).2, .inl ⟨_, He.glo_ok X G (c.fact 83 (f := .glo "Outside") rfl), kitB_ok (exAll_at cx 40 rfl)⟩⟩
    · exact ⟨_, He.glo_ok X G (c.fact 66 (f := .glo "BadCut") rfl), (excCB_ok (exAll_at cx 3 rfl)).1, (excCB_ok (exAll_at cx 3 rfl)).2, .inl ⟨_, He.glo_ok X G (c.fact 84 (f := .glo "BadCut") rfl), kitB_ok (exAll_at cx 41 rfl)⟩⟩
    · exact ⟨_, He.glo_ok X G (c.fact 66 (f := .glo "BadCut") rfl), (excCB_ok (exAll_at cx 3 rfl)).1, (excCB_ok (exAll_at cx 3 rfl)).2, .inl ⟨_, He.glo_ok X G (c.fact 85 (f := .glo "Clash") rfl), kitB_ok (exAll_at cx 42 rfl)⟩⟩
    · exact ⟨_, He.glo_ok X G (c.fact 66 (f := .glo "BadCut") rfl), (excCB_ok (exAll_at cx 3 rfl)).1, (excCB_ok (exAll_at cx 3 rfl)).2, .inl ⟨_, He.glo_ok X G (c.fact 86 (f := .glo "WellError") rfl), kitB_ok (exAll_at cx 43 rfl)⟩⟩
    · exact ⟨_, He.glo_ok X G (c.fact 66 (f := .glo "BadCut") rfl), (excCB_ok (exAll_at cx 3 rfl)).1, (excCB_ok (exAll_at cx 3 rfl)).2, .inr ⟨rfl, He.free_ok X G (c.fact 91 (f := .free "ValueError") rfl), kitB_ok (exAll_at cx 44 rfl)⟩⟩
    · exact ⟨_, He.glo_ok X G (c.fact 66 (f := .glo "BadCut") rfl), (excCB_ok (exAll_at cx 3 rfl)).1, (excCB_ok (exAll_at cx 3 rfl)).2, .inl ⟨_, He.glo_ok X G (c.fact 87 (f := .glo "NoName") rfl), kitB_ok (exAll_at cx 45 rfl)⟩⟩
    · exact ⟨_, He.glo_ok X G (c.fact 66 (f := .glo "BadCut") rfl), (excCB_ok (exAll_at cx 3 rfl)).1, (excCB_ok (exAll_at cx 3 rfl)).2, .inl ⟨_, He.glo_ok X G (c.fact 88 (f := .glo "NoKind") rfl), kitB_ok (exAll_at cx 46 rfl)⟩⟩
    · exact ⟨_, He.glo_ok X G (c.fact 66 (f := .glo "BadCut") rfl), (excCB_ok (exAll_at cx 3 rfl)).1, (excCB_ok (exAll_at cx 3 rfl)).2, .inl ⟨_, He.glo_ok X G (c.fact 89 (f := .glo "NoZone") rfl), kitB_ok (exAll_at cx 47 rfl)⟩⟩
    · exact ⟨_, He.glo_ok X G (c.fact 66 (f := .glo "BadCut") rfl), (excCB_ok (exAll_at cx 3 rfl)).1, (excCB_ok (exAll_at cx 3 rfl)).2, .inl ⟨_, He.glo_ok X G (c.fact 90 (f := .glo "NoDeed") rfl), kitB_ok (exAll_at cx 48 rfl)⟩⟩
    · exact ⟨_, He.glo_ok X G (c.fact 67 (f := .glo "Clash") rfl), (excCB_ok (exAll_at cx 4 rfl)).1, (excCB_ok (exAll_at cx 4 rfl)).2, .inl ⟨_, He.glo_ok X G (c.fact 81 (f := .glo "BadRow") rfl), kitB_ok (exAll_at cx 49 rfl)⟩⟩
    · exact ⟨_, He.glo_ok X G (c.fact 67 (f := .glo "Clash") rfl), (excCB_ok (exAll_at cx 4 rfl)).1, (excCB_ok (exAll_at cx 4 rfl)).2, .inl ⟨_, He.glo_ok X G (c.fact 82 (f := .glo "BadName") rfl), kitB_ok (exAll_at cx 50 rfl)⟩⟩
    · exact ⟨_, He.glo_ok X G (c.fact 67 (f := .glo "Clash") rfl), (excCB_ok (exAll_at cx 4 rfl)).1, (excCB_ok (exAll_at cx 4 rfl)).2, .inl ⟨_, He.glo_ok X G (c.fact 83 (f := .glo "Outside") rfl), kitB_ok (exAll_at cx 51 rfl)⟩⟩
    · exact ⟨_, He.glo_ok X G (c.fact 67 (f := .glo "Clash") rfl), (excCB_ok (exAll_at cx 4 rfl)).1, (excCB_ok (exAll_at cx 4 rfl)).2, .inl ⟨_, He.glo_ok X G (c.fact 84 (f := .glo "BadCut") rfl), kitB_ok (exAll_at cx 52 rfl)⟩⟩
    · exact ⟨_, He.glo_ok X G (c.fact 67 (f := .glo "Clash") rfl), (excCB_ok (exAll_at cx 4 rfl)).1, (excCB_ok (exAll_at cx 4 rfl)).2, .inl ⟨_, He.glo_ok X G (c.fact 85 (f := .glo "Clash") rfl), kitB_ok (exAll_at cx 53 rfl)⟩⟩
    · exact ⟨_, He.glo_ok X G (c.fact 67 (f := .glo "Clash") rfl), (excCB_ok (exAll_at cx 4 rfl)).1, (excCB_ok (exAll_at cx 4 rfl)).2, .inl ⟨_, He.glo_ok X G (c.fact 86 (f := .glo "WellError") rfl), kitB_ok (exAll_at cx 54 rfl)⟩⟩
    · exact ⟨_, He.glo_ok X G (c.fact 67 (f := .glo "Clash") rfl), (excCB_ok (exAll_at cx 4 rfl)).1, (excCB_ok (exAll_at cx 4 rfl)).2, .inr ⟨rfl, He.free_ok X G (c.fact 91 (f := .free "ValueError") rfl), kitB_ok (exAll_at cx 55 rfl)⟩⟩
    · exact ⟨_, He.glo_ok X G (c.fact 67 (f := .glo "Clash") rfl), (excCB_ok (exAll_at cx 4 rfl)).1, (excCB_ok (exAll_at cx 4 rfl)).2, .inl ⟨_, He.glo_ok X G (c.fact 87 (f := .glo "NoName") rfl), kitB_ok (exAll_at cx 56 rfl)⟩⟩
    · exact ⟨_, He.glo_ok X G (c.fact 67 (f := .glo "Clash") rfl), (excCB_ok (exAll_at cx 4 rfl)).1, (excCB_ok (exAll_at cx 4 rfl)).2, .inl ⟨_, He.glo_ok X G (c.fact 88 (f := .glo "NoKind") rfl), kitB_ok (exAll_at cx 57 rfl)⟩⟩
    · exact ⟨_, He.glo_ok X G (c.fact 67 (f := .glo "Clash") rfl), (excCB_ok (exAll_at cx 4 rfl)).1, (excCB_ok (exAll_at cx 4 rfl)).2, .inl ⟨_, He.glo_ok X G (c.fact 89 (f := .glo "NoZone") rfl), kitB_ok (exAll_at cx 58 rfl)⟩⟩
    · exact ⟨_, He.glo_ok X G (c.fact 67 (f := .glo "Clash") rfl), (excCB_ok (exAll_at cx 4 rfl)).1, (excCB_ok (exAll_at cx 4 rfl)).2, .inl ⟨_, He.glo_ok X G (c.fact 90 (f := .glo "NoDeed") rfl), kitB_ok (exAll_at cx 59 rfl)⟩⟩
  · simp only [T, List.mem_cons, List.not_mem_nil, or_false] at hc
    rcases hc with rfl | rfl | rfl | rfl | rfl | rfl
    · exact ⟨_, He.glo_ok X G (c.fact 63 (f := .glo "BadName") rfl), rwB_ok (exAll_at cx 60 rfl) hI.1 hI.2 bI⟩
    · exact ⟨_, He.glo_ok X G (c.fact 64 (f := .glo "BadRow") rfl), rwB_ok (exAll_at cx 61 rfl) hI.1 hI.2 bI⟩
    · exact ⟨_, He.glo_ok X G (c.fact 65 (f := .glo "Outside") rfl), rwB_ok (exAll_at cx 62 rfl) hI.1 hI.2 bI⟩
    · exact ⟨_, He.glo_ok X G (c.fact 66 (f := .glo "BadCut") rfl), rwB_ok (exAll_at cx 63 rfl) hI.1 hI.2 bI⟩
    · exact ⟨_, He.glo_ok X G (c.fact 67 (f := .glo "Clash") rfl), rwB_ok (exAll_at cx 64 rfl) hI.1 hI.2 bI⟩
    · exact ⟨_, He.glo_ok X G (c.fact 68 (f := .glo "ZoneError") rfl), rwB_ok (exAll_at cx 65 rfl) hI.1 hI.2 bI⟩
  have w1 : Gw P w K mg base T P1 1 := w0.next (N := N_p_at_or_beneath) (ps := ["name", "top"]) (F := f_p_at_or_beneath) (ir := b_p_at_or_beneath) (sg := g_p_at_or_beneath) rfl F0 (He.glo_ok X G (c.fact 0 (f := .glo "at_or_beneath") rfl)) sc_p_at_or_beneath rfl (by decide) ok_p_at_or_beneath (fun ds _ _ => rfl) fun _ _ _ _ _ _ us hl => match us, hl with | [_, _], _ => rfl
  have w2 : Gw P w K mg base T P2 2 := w1.next (N := N_p_is_word) (ps := ["text"]) (F := f_p_is_word) (ir := b_p_is_word) (sg := g_p_is_word) rfl F1 (He.glo_ok X G (c.fact 1 (f := .glo "is_word") rfl)) sc_p_is_word rfl (by decide) ok_p_is_word (fun ds _ _ => rfl) fun _ _ _ _ _ _ us hl => match us, hl with | [_], _ => rfl
  have w3 : Gw P w K mg base T P3 3 := w2.next (N := N_p_beneath_top) (ps := ["text", "top"]) (F := f_p_beneath_top) (ir := b_p_beneath_top) (sg := g_p_beneath_top) rfl F2 (He.glo_ok X G (c.fact 2 (f := .glo "beneath_top") rfl)) sc_p_beneath_top rfl (by decide) ok_p_beneath_top (fun ds _ _ => rfl) fun _ _ _ _ _ _ us hl => match us, hl with | [_, _], _ => rfl
  have w4 : Gw P w K mg base T P4 4 := w3.nextD (N := N_p_read_name) (ps := ["text", "top", "star"]) (F := f_p_read_name) (F0 := f_p_read_name) (ir := b_p_read_name) (sg := g_p_read_name) (sg0 := g_p_read_name) (j := 2) (es := []) rfl F3 (He.glo_ok X G (c.fact 3 (f := .glo "read_name") rfl)) sc_p_read_name rfl (by decide) ok_p_read_name (fun ds _ _ => rfl) rfl rfl rfl (fun G => .nil) (fun ds => by rw [List.append_nil]) (by intro h; cases h) fun _ _ _ _ _ _ _ us its hu hi => match us, its, hu, hi with | [_, _, _], [_, _], _, _ => ⟨_, rfl, rfl⟩
  have w5 : Gw P w K mg base T P5 5 := w4.next (N := N_p_is_kind) (ps := ["text"]) (F := f_p_is_kind) (ir := b_p_is_kind) (sg := g_p_is_kind) rfl F4 (He.glo_ok X G (c.fact 4 (f := .glo "is_kind") rfl)) sc_p_is_kind rfl (by decide) ok_p_is_kind (fun ds _ _ => rfl) fun _ _ _ _ _ _ us hl => match us, hl with | [_], _ => rfl
  have w6 : Gw P w K mg base T P6 6 := w5.next (N := N_p_is_value) (ps := ["text"]) (F := f_p_is_value) (ir := b_p_is_value) (sg := g_p_is_value) rfl F5 (He.glo_ok X G (c.fact 5 (f := .glo "is_value") rfl)) sc_p_is_value rfl (by decide) ok_p_is_value (fun ds _ _ => rfl) fun _ _ _ _ _ _ us hl => match us, hl with | [_], _ => rfl
  have w7 : Gw P w K mg base T P7 7 := w6.next (N := N_p_read_life) (ps := ["text"]) (F := f_p_read_life) (ir := b_p_read_life) (sg := g_p_read_life) rfl F6 (He.glo_ok X G (c.fact 6 (f := .glo "read_life") rfl)) sc_p_read_life rfl (by decide) ok_p_read_life (fun ds _ _ => rfl) fun _ _ _ _ _ _ us hl => match us, hl with | [_], _ => rfl
  have w8 : Gw P w K mg base T P8 8 := w7.next (N := N_p_is_passed_over) (ps := ["line"]) (F := f_p_is_passed_over) (ir := b_p_is_passed_over) (sg := g_p_is_passed_over) rfl F7 (He.glo_ok X G (c.fact 7 (f := .glo "is_passed_over") rfl)) sc_p_is_passed_over rfl (by decide) ok_p_is_passed_over (fun ds _ _ => rfl) fun _ _ _ _ _ _ us hl => match us, hl with | [_], _ => rfl
  have w9 : Gw P w K mg base T P9 9 := w8.next (N := N_p_words_of) (ps := ["line"]) (F := f_p_words_of) (ir := b_p_words_of) (sg := g_p_words_of) rfl F8 (He.glo_ok X G (c.fact 8 (f := .glo "words_of") rfl)) sc_p_words_of rfl (by decide) ok_p_words_of (fun ds _ _ => rfl) fun _ _ _ _ _ _ us hl => match us, hl with | [_], _ => rfl
  have w10 : Gw P w K mg base T P10 10 := w9.nextX (N := N_p_name_at) (ps := ["number", "text", "top", "star"]) (F := f_p_name_at) (sg := g_p_name_at) (e := (.cal 3 (.cons (.var 1) (.cons (.var 2) (.cons (.var 3) .nil))))) (c := "NoName") (d := "BadName") (i := 0) rfl F9 (He.glo_ok X G (c.fact 9 (f := .glo "name_at") rfl)) sc_p_name_at rfl (by decide) ok_p_name_at (fun ds _ _ => rfl) fun _ _ _ _ _ _ us hl => match us, hl with | [_, _, _, _], _ => rfl
  have w11 : Gw P w K mg base T P11 11 := w10.next (N := N_p_life_at) (ps := ["number", "text"]) (F := f_p_life_at) (ir := b_p_life_at) (sg := g_p_life_at) rfl F10 (He.glo_ok X G (c.fact 10 (f := .glo "life_at") rfl)) sc_p_life_at rfl (by decide) ok_p_life_at (fun ds _ _ => rfl) fun _ _ _ _ _ _ us hl => match us, hl with | [_, _], _ => rfl
  have w12 : Gw P w K mg base T P12 12 := w11.next (N := N_p_value_at) (ps := ["number", "kind", "text", "top"]) (F := f_p_value_at) (ir := b_p_value_at) (sg := g_p_value_at) rfl F11 (He.glo_ok X G (c.fact 11 (f := .glo "value_at") rfl)) sc_p_value_at rfl (by decide) ok_p_value_at (fun ds _ _ => rfl) fun _ _ _ _ _ _ us hl => match us, hl with | [_, _, _, _], _ => rfl
  have w13 : Gw P w K mg base T P13 13 := w12.next (N := N_p_head_of) (ps := ["number", "line"]) (F := f_p_head_of) (ir := b_p_head_of) (sg := g_p_head_of) rfl F12 (He.glo_ok X G (c.fact 12 (f := .glo "head_of") rfl)) sc_p_head_of rfl (by decide) ok_p_head_of (fun ds _ _ => rfl) fun _ _ _ _ _ _ us hl => match us, hl with | [_, _], _ => rfl
  have w14 : Gw P w K mg base T P14 14 := w13.next (N := N_p_parts_of) (ps := ["number", "line", "top", "rows"]) (F := f_p_parts_of) (ir := b_p_parts_of) (sg := g_p_parts_of) rfl F13 (He.glo_ok X G (c.fact 13 (f := .glo "parts_of") rfl)) sc_p_parts_of rfl (by decide) ok_p_parts_of (fun ds _ _ => rfl) fun _ _ _ _ _ _ us hl => match us, hl with | [_, _, _, _], _ => rfl
  have w15 : Gw P w K mg base T P15 15 := w14.next (N := N_p_clashes) (ps := ["row", "rows"]) (F := f_p_clashes) (ir := b_p_clashes) (sg := g_p_clashes) rfl F14 (He.glo_ok X G (c.fact 14 (f := .glo "clashes") rfl)) sc_p_clashes rfl (by decide) ok_p_clashes (fun ds _ _ => rfl) fun _ _ _ _ _ _ us hl => match us, hl with | [_, _], _ => rfl
  have w16 : Gw P w K mg base T P16 16 := w15.next (N := N_p_row_of) (ps := ["number", "line", "top", "rows"]) (F := f_p_row_of) (ir := b_p_row_of) (sg := g_p_row_of) rfl F15 (He.glo_ok X G (c.fact 15 (f := .glo "row_of") rfl)) sc_p_row_of rfl (by decide) ok_p_row_of (fun ds _ _ => rfl) fun _ _ _ _ _ _ us hl => match us, hl with | [_, _, _, _], _ => rfl
  have w17 : Gw P w K mg base T P17 17 := w16.next (N := N_p_read_zone) (ps := ["text"]) (F := f_p_read_zone) (ir := b_p_read_zone) (sg := g_p_read_zone) rfl F16 (He.glo_ok X G (c.fact 16 (f := .glo "read_zone") rfl)) sc_p_read_zone rfl (by decide) ok_p_read_zone (fun ds _ _ => rfl) fun _ _ _ _ _ _ us hl => match us, hl with | [_], _ => rfl
  have w18 : Gw P w K mg base T P18 18 := w17.next (N := N_l_cell_at) (ps := ["_law_script", "_law_k"]) (F := f_l_cell_at) (ir := b_l_cell_at) (sg := g_l_cell_at) rfl F17 (He.glo_ok X G (c.fact 17 (f := .glo "_law_cell_at") rfl)) sc_l_cell_at rfl (by decide) ok_l_cell_at (fun ds _ _ => rfl) fun _ _ _ _ _ _ us hl => match us, hl with | [_, _], _ => rfl
  have w19 : Gw P w K mg base T P19 19 := w18.next (N := N_l_part) (ps := ["_law_cell", "_law_k", "_law_many"]) (F := f_l_part) (ir := b_l_part) (sg := g_l_part) rfl F18 (He.glo_ok X G (c.fact 18 (f := .glo "_law_part") rfl)) sc_l_part rfl (by decide) ok_l_part (fun ds _ _ => rfl) fun _ _ _ _ _ _ us hl => match us, hl with | [_, _, _], _ => rfl
  have w20 : Gw P w K mg base T P20 20 := w19.next (N := N_l_words) (ps := ["_law_one", "_law_other"]) (F := f_l_words) (ir := b_l_words) (sg := g_l_words) rfl F19 (He.glo_ok X G (c.fact 19 (f := .glo "_law_words") rfl)) sc_l_words rfl (by decide) ok_l_words (fun ds _ _ => rfl) fun _ _ _ _ _ _ us hl => match us, hl with | [_, _], _ => rfl
  have w21 : Gw P w K mg base T P21 21 := w20.next (N := N_l_below) (ps := ["_law_words_here", "_law_cell", "_law_k", "_law_many"]) (F := f_l_below) (ir := b_l_below) (sg := g_l_below) rfl F20 (He.glo_ok X G (c.fact 20 (f := .glo "_law_below") rfl)) sc_l_below rfl (by decide) ok_l_below (fun ds _ _ => rfl) fun _ _ _ _ _ _ us hl => match us, hl with | [_, _, _, _], _ => rfl
  have w22 : Gw P w K mg base T P22 22 := w21.next (N := N_l_row) (ps := ["_law_words_here", "_law_top", "_law_cell"]) (F := f_l_row) (ir := b_l_row) (sg := g_l_row) rfl F21 (He.glo_ok X G (c.fact 21 (f := .glo "_law_row") rfl)) sc_l_row rfl (by decide) ok_l_row (fun ds _ _ => rfl) fun _ _ _ _ _ _ us hl => match us, hl with | [_, _, _], _ => rfl
  have w23 : Gw P w K mg base T P23 23 := w22.next (N := N_l_fits) (ps := ["_law_rows_here", "_law_row_here", "_law_top"]) (F := f_l_fits) (ir := b_l_fits) (sg := g_l_fits) rfl F22 (He.glo_ok X G (c.fact 22 (f := .glo "_law_fits") rfl)) sc_l_fits rfl (by decide) ok_l_fits (fun ds _ _ => rfl) fun _ _ _ _ _ _ us hl => match us, hl with | [_, _, _], _ => rfl
  have w24 : Gw P w K mg base T P24 24 := w23.next (N := N_l_rows) (ps := ["_law_words_here", "_law_top", "_law_cells"]) (F := f_l_rows) (ir := b_l_rows) (sg := g_l_rows) rfl F23 (He.glo_ok X G (c.fact 23 (f := .glo "_law_rows") rfl)) sc_l_rows rfl (by decide) ok_l_rows (fun ds _ _ => rfl) fun _ _ _ _ _ _ us hl => match us, hl with | [_, _, _], _ => rfl
  have w25 : Gw P w K mg base T P25 25 := w24.next (N := N_l_name_text) (ps := ["_law_name"]) (F := f_l_name_text) (ir := b_l_name_text) (sg := g_l_name_text) rfl F24 (He.glo_ok X G (c.fact 24 (f := .glo "_law_name_text") rfl)) sc_l_name_text rfl (by decide) ok_l_name_text (fun ds _ _ => rfl) fun _ _ _ _ _ _ us hl => match us, hl with | [_], _ => rfl
  have w26 : Gw P w K mg base T P26 26 := w25.next (N := N_l_line) (ps := ["_law_row_here"]) (F := f_l_line) (ir := b_l_line) (sg := g_l_line) rfl F25 (He.glo_ok X G (c.fact 25 (f := .glo "_law_line") rfl)) sc_l_line rfl (by decide) ok_l_line (fun ds _ _ => rfl) fun _ _ _ _ _ _ us hl => match us, hl with | [_], _ => rfl
  have w27 : Gw P w K mg base T P27 27 := w26.next (N := N_l_bad_name) (ps := ["_law_name", "_law_cell"]) (F := f_l_bad_name) (ir := b_l_bad_name) (sg := g_l_bad_name) rfl F26 (He.glo_ok X G (c.fact 26 (f := .glo "_law_bad_name") rfl)) sc_l_bad_name rfl (by decide) ok_l_bad_name (fun ds _ _ => rfl) fun _ _ _ _ _ _ us hl => match us, hl with | [_, _], _ => rfl
  have w28 : Gw P w K mg base T P28 28 := w27.next (N := N_l_bad_rows) (ps := ["_law_name", "_law_cell"]) (F := f_l_bad_rows) (ir := b_l_bad_rows) (sg := g_l_bad_rows) rfl F27 (He.glo_ok X G (c.fact 27 (f := .glo "_law_bad_rows") rfl)) sc_l_bad_rows rfl (by decide) ok_l_bad_rows (fun ds _ _ => rfl) fun _ _ _ _ _ _ us hl => match us, hl with | [_, _], _ => rfl
  have w29 : Gw P w K mg base T P29 29 := w28.next (N := N_l_outside) (ps := ["_law_words_here", "_law_top", "_law_cell"]) (F := f_l_outside) (ir := b_l_outside) (sg := g_l_outside) rfl F28 (He.glo_ok X G (c.fact 28 (f := .glo "_law_outside") rfl)) sc_l_outside rfl (by decide) ok_l_outside (fun ds _ _ => rfl) fun _ _ _ _ _ _ us hl => match us, hl with | [_, _, _], _ => rfl
  have w30 : Gw P w K mg base T P30 30 := w29.next (N := N_l_clash) (ps := ["_law_rows_here", "_law_cell"]) (F := f_l_clash) (ir := b_l_clash) (sg := g_l_clash) rfl F29 (He.glo_ok X G (c.fact 29 (f := .glo "_law_clash") rfl)) sc_l_clash rfl (by decide) ok_l_clash (fun ds _ _ => rfl) fun _ _ _ _ _ _ us hl => match us, hl with | [_, _], _ => rfl
  have w31 : Gw P w K mg base T P31 31 := w30.next (N := N_l_wrong) (ps := ["_law_words_here", "_law_top", "_law_rows_here", "_law_cell"]) (F := f_l_wrong) (ir := b_l_wrong) (sg := g_l_wrong) rfl F30 (He.glo_ok X G (c.fact 30 (f := .glo "_law_wrong") rfl)) sc_l_wrong rfl (by decide) ok_l_wrong (fun ds _ _ => rfl) fun _ _ _ _ _ _ us hl => match us, hl with | [_, _, _, _], _ => rfl
  have w32 : Gw P w K mg base T P32 32 := w31.next (N := N_l_wrong_first) (ps := ["_law_top", "_law_cell"]) (F := f_l_wrong_first) (ir := b_l_wrong_first) (sg := g_l_wrong_first) rfl F31 (He.glo_ok X G (c.fact 31 (f := .glo "_law_wrong_first") rfl)) sc_l_wrong_first rfl (by decide) ok_l_wrong_first (fun ds _ _ => rfl) fun _ _ _ _ _ _ us hl => match us, hl with | [_, _], _ => rfl
  have w33 : Gw P w K mg base T P33 33 := w32.next (N := N_l_passed) (ps := ["_law_many", "_law_cell"]) (F := f_l_passed) (ir := b_l_passed) (sg := g_l_passed) rfl F32 (He.glo_ok X G (c.fact 32 (f := .glo "_law_passed") rfl)) sc_l_passed rfl (by decide) ok_l_passed (fun ds _ _ => rfl) fun _ _ _ _ _ _ us hl => match us, hl with | [_, _], _ => rfl
  have w34 : Gw P w K mg base T P34 34 := w33.next (N := N_l_refused) (ps := ["_law_text"]) (F := f_l_refused) (ir := b_l_refused) (sg := g_l_refused) rfl F33 (He.glo_ok X G (c.fact 33 (f := .glo "_law_refused") rfl)) sc_l_refused rfl (by decide) ok_l_refused (fun ds _ _ => rfl) fun _ _ _ _ _ _ us hl => match us, hl with | [_], _ => rfl
  have w35 : Gw P w K mg base T P35 35 := w34.next (N := N_l_due) (ps := ["_law_number", "_law_way"]) (F := f_l_due) (ir := b_l_due) (sg := g_l_due) rfl F34 (He.glo_ok X G (c.fact 34 (f := .glo "_law_due") rfl)) sc_l_due rfl (by decide) ok_l_due (fun ds _ _ => rfl) fun _ _ _ _ _ _ us hl => match us, hl with | [_, _], _ => rfl
  have w36 : Gw P w K mg base T P36 36 := w35.next (N := N_l_is_refused) (ps := ["_law_text", "_law_number", "_law_way"]) (F := f_l_is_refused) (ir := b_l_is_refused) (sg := g_l_is_refused) rfl F35 (He.glo_ok X G (c.fact 35 (f := .glo "_law_is_refused") rfl)) sc_l_is_refused rfl (by decide) ok_l_is_refused (fun ds _ _ => rfl) fun _ _ _ _ _ _ us hl => match us, hl with | [_, _, _], _ => rfl
  have w37 : Gw P w K mg base T P37 37 := w36.next (N := N_l_is_zone) (ps := ["_law_found", "_law_top", "_law_life", "_law_rows_here"]) (F := f_l_is_zone) (ir := b_l_is_zone) (sg := g_l_is_zone) rfl F36 (He.glo_ok X G (c.fact 36 (f := .glo "_law_is_zone") rfl)) sc_l_is_zone rfl (by decide) ok_l_is_zone (fun ds _ _ => rfl) fun _ _ _ _ _ _ us hl => match us, hl with | [_, _, _, _], _ => rfl
  exact law_end <| law_F (N := N_law) (F := f_law) (ir := b_law) (sg := g_law) w37 F37 sc_law rfl (by decide) ok_law (fun ds _ _ => rfl)
end NK14
end

section
set_option maxHeartbeats 0
open PySem PySem.W PySem.Calls PyProof.Rows
theorem PySem.Challenge.cw_namewell_k14_a_wrong_line_holds : PySem.Challenge.rw_namewell_k14_a_wrong_line.Holds := by
  w_on; o_law
  refine HandSHeadRun.head_any (r := OpenLaw.row PySem.Challenge.rw_namewell_k14_a_wrong_line) (q := view (OpenLaw.row PySem.Challenge.rw_namewell_k14_a_wrong_line).prog [62]) (H := NK14.hk) (ob := NK14.ob) (M := 6700) (loose := NK14.loose) (d := HandSHeadRun.topDef (OpenLaw.row PySem.Challenge.rw_namewell_k14_a_wrong_line).prog 62) (kwd := []) NK14.ob_eq
    (by kernel_rfl) (fun s => by kernel_rfl) NK14.run (by kernel_rfl) (by kernel_rfl) (by kernel_rfl) (by rfl) (by first | assumption | decide +kernel) (by decide +kernel) ⟨rfl, rfl, rfl, rfl, rfl, by decide +kernel⟩ ?hw ?hc
  case hw => w_witness2
  case hc =>
    refine L2.walk_ofE (l := PySem.Challenge.rw_namewell_k14_a_wrong_line) (n := 63) (k := 38) (x := "_law_script") (CX := L2.CX0) rfl (by decide) (by kernel_rfl) ⟨rfl, by decide, by decide⟩ ?F (fun _ _ _ _ z => z)
    intro w mg fa h Y G hmg0
    obtain ⟨K, KX, c, cx⟩ := Y
    have hmg : mg ("law" : PySem.Str) = some (.ref fa) := by
      have e : (HandSHeadRun.topDef (OpenLaw.row PySem.Challenge.rw_namewell_k14_a_wrong_line).prog 62).name = ("law" : PySem.Str) := by kernel_rfl
      rw [← e]
      exact hmg0
    obtain ⟨fd, hb, hF⟩ := NK14.facts (P := (PySem.Challenge.rw_namewell_k14_a_wrong_line).prog) (w := w) KX G hmg c cx
    exact ⟨K, fd, fun vs H Q _ => NW.spD K mg NK14.g_law NK14.f_law vs H Q (fun _ _ _ => False), KX, hb, fun H a ns hl _ hS => NW.law_sp (NK14.law_true ns hl) hS, hF⟩
end
