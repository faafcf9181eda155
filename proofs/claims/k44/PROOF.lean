import PyProof.Rows.All
import Wide.All
import OpenK.AllK
import Wide.FinOn
import HandS.ForMost
import HandS.ForExc
import HandS.CallSlots
import HandS.Flow
import HandS.TupAny
import HandS.SuiteRaise
import HandS.IsInst
import HandS.StrMore
import HandS.SortOrd
import HandS.Defaults
import HandS.Head0
import HandS.Head1
import HandS.Head2
import HandS.HeadEnd
import HandS.HeadHook1
import HandS.HeadHook2
import HandS.TupMul
import KE.KxIndex
import KE.SortData
import HandS.ExcIs
import HandS.TryOnly
import HandS.ExcInitHot
import HandS.ExcField
import KE.KExcIs
import HandS.RaiseFrom
import KE.KIntText
import KE.KStrOpen
import PyProof.StrLawsChain
import PyProof.StrLawsTight
import PyProof.Rows.StrItems
import PySem.Challenge.RW_namewell_k44_rings_and_the_lost
set_option Elab.async false
set_option linter.all false
set_option maxRecDepth 100000
section
set_option maxHeartbeats 4000000
namespace NW
open PySem PySem.Spec PyProof.Rows L2

abbrev Dat := PyData

mutual
inductive Rep (K : PySem.W.Frag) (G : Hp) : V → Dat → Prop
  | non : Rep K G .non .none
  | bl (b : Bool) : Rep K G (.bl b) (.bool b)
  | int (i : Int) : Rep K G (.int i) (.int i)
  | str (x : Str) : Rep K G (.str x) (.str x)
  | lst {a : Addr} {xs : List V} {ds : List Dat} : SqL K G a xs → Reps K G xs ds → Rep K G (.ref a) (.list ds)
  | tup {a : Addr} {xs : List V} {ds : List Dat} : SqT K G a xs → Reps K G xs ds → Rep K G (.ref a) (.tuple ds)
  | dct {a : Addr} {kvs : List (Key × V)} {ds : List (Dat × Dat)} : Rd G a (.dK kvs) → Repd K G kvs ds → Rep K G (.ref a) (.dict ds)
inductive Reps (K : PySem.W.Frag) (G : Hp) : List V → List Dat → Prop
  | nil : Reps K G [] []
  | cons {v : V} {vs : List V} {d : Dat} {ds : List Dat} : Rep K G v d → Reps K G vs ds → Reps K G (v :: vs) (d :: ds)
inductive Repd (K : PySem.W.Frag) (G : Hp) : List (Key × V) → List (Dat × Dat) → Prop
  | nil : Repd K G [] []
  | int {i : Int} {v : V} {vs : List (Key × V)} {d : Dat} {ds : List (Dat × Dat)} : Rep K G v d → Repd K G vs ds → Repd K G ((.inl i, v) :: vs) ((.int i, d) :: ds)
  | str {x : Str} {v : V} {vs : List (Key × V)} {d : Dat} {ds : List (Dat × Dat)} : Rep K G v d → Repd K G vs ds → Repd K G ((.inr x, v) :: vs) ((.str x, d) :: ds)
end

/-! ### what stays -/
section
variable {K : PySem.W.Frag} {G G' : Hp}
theorem rd_keep (h : Same G G') {a : Addr} {o : HO} : Rd G a o → Rd G' a o
  | .inl q => .inl (h _ _ q)
  | .inr ⟨z, q⟩ => .inr ⟨z, h _ _ q⟩
theorem sqL_keep (h : Same G G') {a : Addr} {xs : List V} : SqL K G a xs → SqL K G' a xs
  | .inl q => .inl (rd_keep h q)
  | .inr q => .inr q
theorem sqT_keep (h : Same G G') {a : Addr} {xs : List V} : SqT K G a xs → SqT K G' a xs
  | .inl q => .inl (rd_keep h q)
  | .inr q => .inr q
mutual
theorem Rep.keep (h : Same G G') : ∀ (d : Dat) (v : V), Rep K G v d → Rep K G' v d
  | .none, _, r => by cases r; exact .non
  | .bool b, _, r => by cases r; exact .bl b
  | .int i, _, r => by cases r; exact .int i
  | .str x, _, r => by cases r; exact .str x
  | .list ds, _, r => by cases r with | lst q r => exact .lst (sqL_keep h q) (Reps.keep h ds _ r)
  | .tuple ds, _, r => by cases r with | tup q r => exact .tup (sqT_keep h q) (Reps.keep h ds _ r)
  | .dict ds, _, r => by cases r with | dct q r => exact .dct (rd_keep h q) (Repd.keep h ds _ r)
theorem Reps.keep (h : Same G G') : ∀ (ds : List Dat) (vs : List V), Reps K G vs ds → Reps K G' vs ds
  | [], _, r => by cases r; exact .nil
  | d :: ds, _, r => by cases r with | cons r t => exact .cons (Rep.keep h d _ r) (Reps.keep h ds _ t)
theorem Repd.keep (h : Same G G') : ∀ (ds : List (Dat × Dat)) (vs : List (Key × V)), Repd K G vs ds → Repd K G' vs ds
  | [], _, r => by cases r; exact .nil
  | (_, d) :: ds, _, r => by
    cases r with
    | int r t => exact .int (Rep.keep h d _ r) (Repd.keep h ds _ t)
    | str r t => exact .str (Rep.keep h d _ r) (Repd.keep h ds _ t)
end
theorem Rep.mono (h : Same G G') {d : Dat} {v : V} (r : Rep K G v d) : Rep K G' v d := Rep.keep h d v r
theorem Reps.mono (h : Same G G') {d : List Dat} {v : List V} (r : Reps K G v d) : Reps K G' v d := Reps.keep h d v r
theorem Repd.mono (h : Same G G') {d : List (Dat × Dat)} {v : List (Key × V)} (r : Repd K G v d) : Repd K G' v d := Repd.keep h d v r
theorem Reps.length {vs : List V} {ds : List Dat} (r : Reps K G vs ds) : vs.length = ds.length := by
  induction ds generalizing vs with
  | nil => cases r; rfl
  | cons d ds ih => cases r with | cons _ t => simp [ih t]
theorem Reps.get {vs : List V} {ds : List Dat} (r : Reps K G vs ds) : ∀ {i : Nat} {d : Dat}, ds[i]? = some d → ∃ v, vs[i]? = some v ∧ Rep K G v d := by
  induction ds generalizing vs with
  | nil => intro i d e; simp at e
  | cons d ds ih =>
    cases r with
    | cons r t =>
      intro i z e
      cases i with
      | zero => simp at e; subst e; exact ⟨_, rfl, r⟩
      | succ i => simp at e; obtain ⟨v, h1, h2⟩ := ih t e; exact ⟨v, by simpa using h1, h2⟩
theorem Reps.getV {vs : List V} {ds : List Dat} (r : Reps K G vs ds) {i : Nat} {v : V} (e : vs[i]? = some v) : ∃ d, ds[i]? = some d ∧ Rep K G v d := by
  have hi := (List.getElem?_eq_some_iff.mp e).1
  have hd : i < ds.length := by rw [← r.length]; exact hi
  obtain ⟨w, h1, h2⟩ := r.get (i := i) (d := ds[i]) (by simp [hd])
  rw [e] at h1; cases h1
  exact ⟨ds[i], by simp [hd], h2⟩
theorem Reps.append {vs ws : List V} {ds es : List Dat} (r : Reps K G vs ds) (q : Reps K G ws es) : Reps K G (vs ++ ws) (ds ++ es) := by
  induction ds generalizing vs with
  | nil => cases r; exact q
  | cons d ds ih => cases r with | cons r t => exact .cons r (ih t)
theorem Reps.take {vs : List V} {ds : List Dat} (r : Reps K G vs ds) (n : Nat) : Reps K G (vs.take n) (ds.take n) := by
  induction n generalizing vs ds with
  | zero => exact .nil
  | succ n ih =>
    cases ds with
    | nil => cases r; exact .nil
    | cons d ds => cases r with | cons r t => exact .cons r (ih t)
theorem Reps.drop {vs : List V} {ds : List Dat} (r : Reps K G vs ds) (n : Nat) : Reps K G (vs.drop n) (ds.drop n) := by
  induction n generalizing vs ds with
  | zero => exact r
  | succ n ih =>
    cases ds with
    | nil => cases r; exact .nil
    | cons d ds => cases r with | cons r t => exact ih t
theorem Reps.reverse {vs : List V} {ds : List Dat} (r : Reps K G vs ds) : Reps K G vs.reverse ds.reverse := by
  induction ds generalizing vs with
  | nil => cases r; exact .nil
  | cons d ds ih => cases r with | cons r t => rw [List.reverse_cons, List.reverse_cons]; exact (ih t).append (.cons r .nil)
theorem Reps.set {vs : List V} {ds : List Dat} (r : Reps K G vs ds) {v : V} {d : Dat} (q : Rep K G v d) (i : Nat) : Reps K G (vs.set i v) (ds.set i d) := by
  induction ds generalizing vs i with
  | nil => cases r; exact .nil
  | cons e ds ih =>
    cases r with
    | cons r t =>
      cases i with
      | zero => exact .cons q t
      | succ i => exact .cons r (ih t i)
theorem Reps.dropLast {vs : List V} {ds : List Dat} (r : Reps K G vs ds) : Reps K G vs.dropLast ds.dropLast := by
  rw [List.dropLast_eq_take, List.dropLast_eq_take, r.length]; exact r.take _
theorem Reps.ints (ns : List Int) : Reps K G (ns.map V.int) (ns.map PyData.int) := by
  induction ns with
  | nil => exact .nil
  | cons n ns ih => exact .cons (.int n) ih
theorem Reps.strs (ns : List Str) : Reps K G (ns.map V.str) (ns.map PyData.str) := by
  induction ns with
  | nil => exact .nil
  | cons n ns ih => exact .cons (.str n) ih
theorem Reps.strs_inv {vs : List V} {xs : List Str} (r : Reps K G vs (xs.map PyData.str)) : vs = xs.map V.str := by
  induction xs generalizing vs with
  | nil => cases r; rfl
  | cons x xs ih => cases r with | cons r t => cases r; rw [ih t]; rfl
theorem Reps.ints_inv {vs : List V} {xs : List Int} (r : Reps K G vs (xs.map PyData.int)) : vs = xs.map V.int := by
  induction xs generalizing vs with
  | nil => cases r; rfl
  | cons x xs ih => cases r with | cons r t => cases r; rw [ih t]; rfl
theorem Reps.bls_inv {vs : List V} {xs : List Bool} (r : Reps K G vs (xs.map PyData.bool)) : vs = xs.map V.bl := by
  induction xs generalizing vs with
  | nil => cases r; rfl
  | cons x xs ih => cases r with | cons r t => cases r; rw [ih t]; rfl
end

/-! ### the state goes on: H is added to, the still part G too, never by what stood in H -/
structure Ext (H G H' G' : Hp) : Prop where
  all : Same H H'
  stl : Same G G'
  sub : Same G' H'
  new : ∀ a, G' a ≠ none → G a ≠ none ∨ H a = none
theorem Ext.refl {H G : Hp} (h : Same G H) : Ext H G H G := ⟨Same.refl H, Same.refl G, h, fun _ q => .inl q⟩
theorem Ext.trans {H G H1 G1 H2 G2 : Hp} (a : Ext H G H1 G1) (b : Ext H1 G1 H2 G2) : Ext H G H2 G2 :=
  ⟨a.all.trans b.all, a.stl.trans b.stl, b.sub, fun c q => by
    rcases b.new c q with z | z
    · exact a.new c z
    · exact .inr (a.all.free z)⟩
/-- a new object, still from the start -/
theorem Ext.made {H G : Hp} (h : Same G H) {p : Addr} (np : H p = none) (o : HO) : Ext H G (upd H p o) (upd G p o) := by
  have ng : G p = none := h.free np
  refine ⟨fun b u e => ?_, fun b u e => ?_, fun b u e => ?_, fun a q => ?_⟩
  · rw [upd_ne (ne_of_none e np)]; exact e
  · rw [upd_ne (ne_of_none e ng)]; exact e
  · by_cases hb : b = p
    · subst hb; rw [upd_same] at e ⊢; exact e
    · rw [upd_ne hb] at e ⊢; exact h _ _ e
  · by_cases hb : a = p
    · subst hb; exact .inr np
    · rw [upd_ne hb] at q; exact .inl q
/-- a new object that isn't still -/
theorem Ext.laid {H G : Hp} (h : Same G H) {p : Addr} (np : H p = none) (o : HO) : Ext H G (upd H p o) G := by
  refine ⟨fun b u e => ?_, Same.refl G, fun b u e => ?_, fun a q => .inl q⟩
  · rw [upd_ne (ne_of_none e np)]; exact e
  · rw [upd_ne (ne_of_none (h _ _ e) np)]; exact h _ _ e

/-! ### == and != of data -/
section
variable {X : Cx} {pins : List (Addr × Obj)} {σ : L2.St} {H G : Hp} {s : Shared}
theorem rep_list (I : Inv X pins σ H s) (hs : Same G H) {v : V} {u : Value} {ds : List Dat} (r : Rep X.K G v (.list ds)) (ru : RelV v u) :
    ∃ a vs us, v = .ref a ∧ u = .ref a ∧ SqL X.K H a vs ∧ Reps X.K G vs ds ∧ Vals vs us ∧ s.heap.IsList a us.toArray := by
  cases r with
  | lst q r =>
    cases ru
    obtain ⟨us, rv, p, _⟩ := I.list (sqL_keep hs q)
    exact ⟨_, _, us, rfl, rfl, sqL_keep hs q, r, rv, p.isList⟩
theorem rep_tuple (I : Inv X pins σ H s) (hs : Same G H) {v : V} {u : Value} {ds : List Dat} (r : Rep X.K G v (.tuple ds)) (ru : RelV v u) :
    ∃ a vs us, v = .ref a ∧ u = .ref a ∧ SqT X.K H a vs ∧ Reps X.K G vs ds ∧ Vals vs us ∧ s.heap.IsTuple a us.toArray := by
  cases r with
  | tup q r =>
    cases ru
    obtain ⟨us, rv, p, _⟩ := I.tuple (sqT_keep hs q)
    exact ⟨_, _, us, rfl, rfl, sqT_keep hs q, r, rv, p⟩
mutual
/-- no dict within -/
def ndc : Dat → Bool
  | .dict _ => false
  | .list ds => ndcs ds
  | .tuple ds => ndcs ds
  | _ => true
def ndcs : List Dat → Bool
  | [] => true
  | d :: ds => ndc d && ndcs ds
end
/-- places of two lists told to be alike -/
def alike (ds es : List Dat) (j : Nat) : Bool := match ds[j]?, es[j]? with
  | some d, some e => PyData.eqv d e
  | _, _ => false
theorem alike_all : ∀ (ds es : List Dat), ds.length = es.length → (List.range ds.length).all (alike ds es) = PyData.eqvAll ds es
  | [], [], _ => rfl
  | [], _ :: _, h => by simp at h
  | _ :: _, [], h => by simp at h
  | d :: ds, e :: es, h => by
    have ih := alike_all ds es (by simpa using h)
    rw [List.length_cons, List.range_succ_eq_map, List.all_cons, List.all_map]
    show (PyData.eqv d e && (List.range ds.length).all (alike (d :: ds) (e :: es) ∘ Nat.succ)) = (PyData.eqv d e && PyData.eqvAll ds es)
    rw [← ih]
    rfl
theorem eqvAll_len : ∀ (ds es : List Dat), ds.length ≠ es.length → PyData.eqvAll ds es = false
  | [], [], h => absurd rfl h
  | [], _ :: _, _ => rfl
  | _ :: _, [], _ => rfl
  | d :: ds, e :: es, h => by
    show (PyData.eqv d e && PyData.eqvAll ds es) = false
    rw [eqvAll_len ds es (by simpa using h), Bool.and_false]
theorem alike_tup (ds es : List Dat) : ((List.range (min ds.length es.length)).all (alike ds es) && ds.length == es.length) = PyData.eqvAll ds es := by
  by_cases h : ds.length = es.length
  · rw [← alike_all ds es h, h, Nat.min_self]; simp
  · rw [eqvAll_len ds es h]; simp [h]
mutual
theorem eqv_refl : ∀ d : Dat, ndc d = true → PyData.eqv d d = true
  | .none, _ => rfl
  | .bool b, _ => by simp [PyData.eqv]
  | .int b, _ => by simp [PyData.eqv]
  | .str b, _ => by simp [PyData.eqv]
  | .list ds, h => by simp only [PyData.eqv]; exact eqvs_refl ds (by simpa [ndc] using h)
  | .tuple ds, h => by simp only [PyData.eqv]; exact eqvs_refl ds (by simpa [ndc] using h)
  | .dict _, h => by simp [ndc] at h
theorem eqvs_refl : ∀ d : List Dat, ndcs d = true → PyData.eqvAll d d = true
  | [], _ => rfl
  | d :: ds, h => by
    have h' : ndc d = true ∧ ndcs ds = true := by simpa [ndcs] using h
    simp only [PyData.eqvAll, eqv_refl d h'.1, eqvs_refl ds h'.2, Bool.and_self]
end
mutual
/-- one value stands for one thing -/
theorem Rep.inj (I : Inv X pins σ H s) (hs : Same G H) : ∀ (d e : Dat) (v : V), Rep X.K G v d → Rep X.K G v e → ndc d = true → ndc e = true → d = e
  | .none, _, _, r, q, _, _ => by cases r; cases q; rfl
  | .bool b, _, _, r, q, _, _ => by cases r; cases q; rfl
  | .int b, _, _, r, q, _, _ => by cases r; cases q; rfl
  | .str b, _, _, r, q, _, _ => by cases r; cases q; rfl
  | .list ds, e, _, r, q, hd, he => by
    cases r with
    | lst x1 r =>
      cases q with
      | lst x2 q =>
        have z := I.list_inj (sqL_keep hs x1) (sqL_keep hs x2)
        subst z
        rw [Reps.inj I hs ds _ _ r q (by simpa [ndc] using hd) (by simpa [ndc] using he)]
      | tup x2 q =>
        obtain ⟨us, _, p, _⟩ := I.list (sqL_keep hs x1)
        obtain ⟨ws, _, p2, _⟩ := I.tuple (sqT_keep hs x2)
        exact absurd rfl (SeqAt.ne_of_list_tuple p.isList p2)
      | dct x2 q => simp [ndc] at he
  | .tuple ds, e, _, r, q, hd, he => by
    cases r with
    | tup x1 r =>
      cases q with
      | tup x2 q =>
        have z := I.tuple_inj (sqT_keep hs x1) (sqT_keep hs x2)
        subst z
        rw [Reps.inj I hs ds _ _ r q (by simpa [ndc] using hd) (by simpa [ndc] using he)]
      | lst x2 q =>
        obtain ⟨us, _, p, _⟩ := I.list (sqL_keep hs x2)
        obtain ⟨ws, _, p2, _⟩ := I.tuple (sqT_keep hs x1)
        exact absurd rfl (SeqAt.ne_of_list_tuple p.isList p2)
      | dct x2 q => simp [ndc] at he
  | .dict _, _, _, _, _, h, _ => by simp [ndc] at h
theorem Reps.inj (I : Inv X pins σ H s) (hs : Same G H) : ∀ (ds es : List Dat) (vs : List V), Reps X.K G vs ds → Reps X.K G vs es → ndcs ds = true → ndcs es = true → ds = es
  | [], _, _, r, q, _, _ => by cases r; cases q; rfl
  | d :: ds, _, _, r, q, hd, he => by
    cases r with
    | cons r t =>
      cases q with
      | cons q t' =>
        have h1 : ndc d = true ∧ ndcs ds = true := by simpa [ndcs] using hd
        simp only [ndcs, Bool.and_eq_true] at he
        rw [Rep.inj I hs d _ _ r q h1.1 he.1, Reps.inj I hs ds _ _ t t' h1.2 he.2]
end
theorem in1_units (A : Around) : A.in1.units = A.units + 1 := rfl
mutual
theorem eqAt_rep (I : Inv X pins σ H s) (hs : Same G H) : ∀ (d e : Dat) (v w : V) (u x : Value) (A : Around), Rep X.K G v d → Rep X.K G w e → RelV v u → RelV w x → ndc d = true → ndc e = true → A.units + PyData.depth d < cLine →
    SeqAt.EqAt A s u x (PyData.eqv d e)
  | .none, e, _, w, _, x, A, r, q, ru, rx, _, he, hu => by
    cases r; cases ru
    cases q with
    | non => cases rx; exact SeqAt.EqAt.same _
    | bl b => cases rx; exact SeqAt.EqAt.none_bool b
    | int b => obtain ⟨t, rfl⟩ := rx; exact SeqAt.EqAt.none_int b t
    | str b => obtain ⟨t, rfl⟩ := rx; exact SeqAt.EqAt.none_str b t
    | lst q1 q2 => obtain ⟨_, _, _, e1, rfl, _, _, _, p⟩ := rep_list I hs (.lst q1 q2) rx; exact SeqAt.EqAt.none_list p (Nat.lt_of_le_of_lt (Nat.le_add_right _ _) hu)
    | tup q1 q2 => obtain ⟨_, _, _, e1, rfl, _, _, _, p⟩ := rep_tuple I hs (.tup q1 q2) rx; exact SeqAt.EqAt.none_tuple p (Nat.lt_of_le_of_lt (Nat.le_add_right _ _) hu)
    | dct _ _ => simp [ndc] at he
  | .bool a, e, _, w, _, x, A, r, q, ru, rx, _, he, hu => by
    cases r; cases ru
    cases q with
    | non => cases rx; exact SeqAt.EqAt.bool_none a
    | bl b => cases rx; exact SeqAt.EqAt.bool_bool a b
    | int b => obtain ⟨t, rfl⟩ := rx; exact SeqAt.EqAt.bool_int a b t
    | str b => obtain ⟨t, rfl⟩ := rx; exact SeqAt.EqAt.bool_str a b t
    | lst q1 q2 => obtain ⟨_, _, _, e1, rfl, _, _, _, p⟩ := rep_list I hs (.lst q1 q2) rx; exact SeqAt.EqAt.bool_list a p (Nat.lt_of_le_of_lt (Nat.le_add_right _ _) hu)
    | tup q1 q2 => obtain ⟨_, _, _, e1, rfl, _, _, _, p⟩ := rep_tuple I hs (.tup q1 q2) rx; exact SeqAt.EqAt.bool_tuple a p (Nat.lt_of_le_of_lt (Nat.le_add_right _ _) hu)
    | dct _ _ => simp [ndc] at he
  | .int a, e, _, w, _, x, A, r, q, ru, rx, _, he, hu => by
    cases r; obtain ⟨t', rfl⟩ := ru
    cases q with
    | non => cases rx; exact SeqAt.EqAt.int_none a t'
    | bl b => cases rx; exact SeqAt.EqAt.int_bool a t' b
    | int b => obtain ⟨t, rfl⟩ := rx; exact SeqAt.EqAt.int_int a t' b t
    | str b => obtain ⟨t, rfl⟩ := rx; exact SeqAt.EqAt.int_str a t' b t
    | lst q1 q2 => obtain ⟨_, _, _, e1, rfl, _, _, _, p⟩ := rep_list I hs (.lst q1 q2) rx; exact SeqAt.EqAt.int_list a t' p (Nat.lt_of_le_of_lt (Nat.le_add_right _ _) hu)
    | tup q1 q2 => obtain ⟨_, _, _, e1, rfl, _, _, _, p⟩ := rep_tuple I hs (.tup q1 q2) rx; exact SeqAt.EqAt.int_tuple a t' p (Nat.lt_of_le_of_lt (Nat.le_add_right _ _) hu)
    | dct _ _ => simp [ndc] at he
  | .str a, e, _, w, _, x, A, r, q, ru, rx, _, he, hu => by
    cases r; obtain ⟨t', rfl⟩ := ru
    cases q with
    | non => cases rx; exact SeqAt.EqAt.str_none a t'
    | bl b => cases rx; exact SeqAt.EqAt.str_bool a t' b
    | int b => obtain ⟨t, rfl⟩ := rx; exact SeqAt.EqAt.str_int a t' b t
    | str b => obtain ⟨t, rfl⟩ := rx; exact SeqAt.EqAt.str_str a t' b t
    | lst q1 q2 => obtain ⟨_, _, _, e1, rfl, _, _, _, p⟩ := rep_list I hs (.lst q1 q2) rx; exact SeqAt.EqAt.str_list a t' p (Nat.lt_of_le_of_lt (Nat.le_add_right _ _) hu)
    | tup q1 q2 => obtain ⟨_, _, _, e1, rfl, _, _, _, p⟩ := rep_tuple I hs (.tup q1 q2) rx; exact SeqAt.EqAt.str_tuple a t' p (Nat.lt_of_le_of_lt (Nat.le_add_right _ _) hu)
    | dct _ _ => simp [ndc] at he
  | .list ds, e, v, w, _, x, A, r, q, ru, rx, hd, he, hu => by
    obtain ⟨a, vs, us, e1, rfl, hS, rr, rv, p⟩ := rep_list I hs r ru
    have hA : A.units < cLine := Nat.lt_of_le_of_lt (Nat.le_add_right _ _) hu
    cases q with
    | non => cases rx; exact SeqAt.EqAt.list_none p hA
    | bl b => cases rx; exact SeqAt.EqAt.list_bool b p hA
    | int b => obtain ⟨t, rfl⟩ := rx; exact SeqAt.EqAt.list_int b t p hA
    | str b => obtain ⟨t, rfl⟩ := rx; exact SeqAt.EqAt.list_str b t p hA
    | tup q1 q2 => obtain ⟨_, _, _, e2, rfl, _, _, _, p2⟩ := rep_tuple I hs (.tup q1 q2) rx; exact SeqAt.EqAt.list_tuple p p2 hA
    | @lst a2 vs2 ds2 q1 q2 =>
      obtain ⟨b, ws, xs, e2, rfl, hS2, rr2, rv2, p2⟩ := rep_list I hs (.lst q1 q2) rx
      by_cases hab : a = b
      · subst hab
        have z : (PyData.list ds) = .list ds2 := Rep.inj I hs _ _ v r (by rw [e1, ← e2]; exact .lst q1 q2) hd he
        cases z
        rw [eqv_refl _ hd]
        exact SeqAt.EqAt.same _
      · show SeqAt.EqAt A s (.ref a) (.ref b) (PyData.eqvAll ds ds2)
        have n1 : us.toArray.size = ds.length := by rw [List.size_toArray, ← rr.length, rv.length]
        have n2 : xs.toArray.size = ds2.length := by rw [List.size_toArray, ← rr2.length, rv2.length]
        refine .of_refs hab ?_
        by_cases hz : ds.length = ds2.length
        · rw [← alike_all ds ds2 hz, ← n1]
          refine SeqAt.RcAt.lists p p2 (by rw [n1, n2, hz]) hA fun j h1 h2 => ?_
          exact eqsAt_rep I hs ds ds2 vs ws us xs A.in1 rr rr2 rv rv2 (by simpa [ndc] using hd) (by simpa [ndc] using he) (by rw [in1_units]; simp only [PyData.depth] at hu; omega) j (by simpa using h1) (by simpa using h2)
        · rw [eqvAll_len ds ds2 hz]
          exact SeqAt.RcAt.lists_lengths p p2 (by rw [n1, n2]; simpa using hz) hA
    | dct _ _ => simp [ndc] at he
  | .tuple ds, e, v, w, _, x, A, r, q, ru, rx, hd, he, hu => by
    obtain ⟨a, vs, us, e1, rfl, hS, rr, rv, p⟩ := rep_tuple I hs r ru
    have hA : A.units < cLine := Nat.lt_of_le_of_lt (Nat.le_add_right _ _) hu
    cases q with
    | non => cases rx; exact SeqAt.EqAt.tuple_none p hA
    | bl b => cases rx; exact SeqAt.EqAt.tuple_bool b p hA
    | int b => obtain ⟨t, rfl⟩ := rx; exact SeqAt.EqAt.tuple_int b t p hA
    | str b => obtain ⟨t, rfl⟩ := rx; exact SeqAt.EqAt.tuple_str b t p hA
    | lst q1 q2 => obtain ⟨_, _, _, e2, rfl, _, _, _, p2⟩ := rep_list I hs (.lst q1 q2) rx; exact SeqAt.EqAt.tuple_list p p2 hA
    | @tup a2 vs2 ds2 q1 q2 =>
      obtain ⟨b, ws, xs, e2, rfl, hS2, rr2, rv2, p2⟩ := rep_tuple I hs (.tup q1 q2) rx
      by_cases hab : a = b
      · subst hab
        have z : (PyData.tuple ds) = .tuple ds2 := Rep.inj I hs _ _ v r (by rw [e1, ← e2]; exact .tup q1 q2) hd he
        cases z
        rw [eqv_refl _ hd]
        exact SeqAt.EqAt.same _
      · show SeqAt.EqAt A s (.ref a) (.ref b) (PyData.eqvAll ds ds2)
        have n1 : us.toArray.size = ds.length := by rw [List.size_toArray, ← rr.length, rv.length]
        have n2 : xs.toArray.size = ds2.length := by rw [List.size_toArray, ← rr2.length, rv2.length]
        refine .of_refs hab ?_
        rw [← alike_tup ds ds2, ← n1, ← n2]
        refine SeqAt.RcAt.tuples p p2 hA fun j h1 h2 => ?_
        exact eqsAt_rep I hs ds ds2 vs ws us xs A.in1 rr rr2 rv rv2 (by simpa [ndc] using hd) (by simpa [ndc] using he) (by rw [in1_units]; simp only [PyData.depth] at hu; omega) j (by simpa using h1) (by simpa using h2)
    | dct _ _ => simp [ndc] at he
  | .dict _, _, _, _, _, _, _, _, _, _, _, h, _, _ => by simp [ndc] at h
theorem eqsAt_rep (I : Inv X pins σ H s) (hs : Same G H) : ∀ (ds es : List Dat) (vs ws : List V) (us xs : List Value) (A : Around), Reps X.K G vs ds → Reps X.K G ws es → Vals vs us → Vals ws xs → ndcs ds = true → ndcs es = true →
    A.units + PyData.depthAll ds < cLine → ∀ (j : Nat) (h1 : j < us.length) (h2 : j < xs.length), SeqAt.EqAt A s us[j] xs[j] (alike ds es j)
  | [], _, _, _, _, _, _, r, _, ru, _, _, _, _ => by
    cases r; cases ru
    intro j h1
    simp at h1
  | d :: ds, es, _, _, _, _, A, r, q, ru, rx, hd, he, hu => by
    cases r with
    | cons r t =>
      cases ru with
      | cons r1 t1 =>
        cases q with
        | nil =>
          cases rx
          intro j _ h2
          simp at h2
        | cons q t2 =>
          cases rx with
          | cons r2 t3 =>
            have h1' : ndc d = true ∧ ndcs ds = true := by simpa [ndcs] using hd
            simp only [ndcs, Bool.and_eq_true] at he
            simp only [PyData.depthAll] at hu
            intro j k1 k2
            cases j with
            | zero => exact eqAt_rep I hs d _ _ _ _ _ A r q r1 r2 h1'.1 he.1 (by omega)
            | succ j => exact eqsAt_rep I hs ds _ _ _ _ _ A t t2 t1 t3 h1'.2 he.2 (by omega) j (by simpa using k1) (by simpa using k2)
end
end
end NW
end

section
set_option maxHeartbeats 4000000
/-! What a def's text means over plain data: expressions, statements, without a heap. -/
namespace NW
open PySem PySem.Spec PyProof.Rows L2

inductive Res (α : Type) where
  | ok (a : α)
  | exc (c : Str) (x : Option Dat)
  | bad
def Res.bind {α β : Type} (r : Res α) (f : α → Res β) : Res β := match r with
  | .ok a => f a
  | .exc c x => .exc c x
  | .bad => .bad
instance : Monad Res where
  pure := .ok
  bind := Res.bind
theorem nrfl {α : Type} {a b : α} (h : a = b) : a = b := h
@[simp] theorem ok_bind {α β : Type} (a : α) (f : α → Res β) : (Res.ok a >>= f) = f a := nrfl rfl
@[simp] theorem exc_bind {α β : Type} (c : Str) (x : Option Dat) (f : α → Res β) : ((Res.exc c x : Res α) >>= f) = .exc c x := nrfl rfl
@[simp] theorem bad_bind {α β : Type} (f : α → Res β) : ((Res.bad : Res α) >>= f) = .bad := nrfl rfl
@[simp] theorem pure_ok {α : Type} (a : α) : (pure a : Res α) = .ok a := nrfl rfl

/-- a slot: nothing; a thing that stays as it is; a list of this def's own; a list that is lent -/
inductive Sl where
  | un
  | fz (d : Dat)
  | ow (ds : List Dat)
  | ln (ds : List Dat)
  | ex (a : Addr) (dx : Option Addr) (c : Str) (x : Option Dat)
abbrev En := List Sl

/-! ### operations -/
inductive Bop where | add | sub | mul | div | mod | pow
inductive Cop where | eq | ne | lt | le | gt | ge | isin | nin | isN | ntN
/-- what may be compared -/
def shOk (d : Dat) : Bool := ndc d && decide (PyData.depth d ≤ 100)
def binD : Bop → Dat → Dat → Res Dat
  | .add, .int a, .int b => .ok (.int (a + b))
  | .add, .str a, .str b => if a.length + b.length ≤ 1000000 then .ok (.str (a ++ b)) else .bad
  | .add, .tuple a, .tuple b => if a.length + b.length ≤ 1000000 then .ok (.tuple (a ++ b)) else .bad
  | .add, .list a, .list b => if a.length + b.length ≤ 1000000 then .ok (.list (a ++ b)) else .bad
  | .sub, .int a, .int b => .ok (.int (a - b))
  | .mul, .int a, .int b => if (-(2 ^ 64) < a ∧ a < 2 ^ 64) ∨ (-(2 ^ 64) < b ∧ b < 2 ^ 64) then .ok (.int (a * b)) else .bad
  | .mul, .str a, .int b => if a.length ≤ 16 ∧ 0 ≤ b ∧ b ≤ 1000 then .ok (.str (Txt.mul a b)) else .bad
  | .mul, .tuple a, .int b => if b = 0 ∨ b = 1 then .ok (.tuple (if b = 1 then a else [])) else .bad
  | .div, .int a, .int b => if b ≠ 0 ∧ b.natAbs < 1073741824 then .ok (.int (a.fdiv b)) else .bad
  | .mod, .int a, .int b => if b ≠ 0 then .ok (.int (a.fmod b)) else .bad
  | .pow, .int a, .int b => if 0 ≤ b ∧ b ≤ 1000000 ∧ a.natAbs < 2 ^ 64 then .ok (.int (a ^ b.toNat)) else .bad
  | _, _, _ => .bad
def inD (x : Dat) : List Dat → Bool
  | [] => false
  | y :: ys => PyData.eqv y x || inD x ys
def strIn (a b : Str) : Bool := match a.cps.toList with
  | [c] => decide (c ∈ b.cps.toList)
  | _ => !(Builtin.Str.occurrences b a 0 b.length 1).isEmpty
/-- a in b -/
def inB (a : Dat) : Dat → Res Bool
  | .list b => if shOk a && shOk (.list b) then .ok (inD a b) else .bad
  | .tuple b => if shOk a && shOk (.tuple b) then .ok (inD a b) else .bad
  | .str b => match a with
    | .str a => .ok (strIn a b)
    | _ => .bad
  | _ => .bad
def cmpD : Cop → Dat → Dat → Res Bool
  | .eq, a, b => if shOk a && shOk b then .ok (PyData.eqv a b) else .bad
  | .ne, a, b => if shOk a && shOk b then .ok (!PyData.eqv a b) else .bad
  | .lt, .int a, .int b => .ok (decide (a < b))
  | .le, .int a, .int b => .ok (decide (a ≤ b))
  | .gt, .int a, .int b => .ok (decide (b < a))
  | .ge, .int a, .int b => .ok (decide (b ≤ a))
  | .lt, .str a, .str b => .ok (decide (a.cps.toList < b.cps.toList))
  | .le, .str a, .str b => .ok (!decide (b.cps.toList < a.cps.toList))
  | .gt, .str a, .str b => .ok (decide (b.cps.toList < a.cps.toList))
  | .ge, .str a, .str b => .ok (!decide (a.cps.toList < b.cps.toList))
  | .isin, a, b => inB a b
  | .nin, a, b => inB a b >>= fun r => .ok (!r)
  | .isN, .none, .none => .ok true
  | .isN, _, .none => .ok false
  | .ntN, .none, .none => .ok false
  | .ntN, _, .none => .ok true
  | _, _, _ => .bad
@[simp] def truD : Dat → Res Bool
  | .none => .ok false
  | .bool b => .ok b
  | .int i => .ok (i != 0)
  | .str s => if s.length ≤ 1000000 then .ok (decide (s.length ≠ 0)) else .bad
  | .list ds => .ok (!ds.isEmpty)
  | .tuple ds => .ok (!ds.isEmpty)
  | .dict _ => .bad
@[simp] def ixD : Dat → Dat → Res Dat
  | .list ds, .int i => match atI ds i with
    | some d => .ok d
    | none => .bad
  | .tuple ds, .int i => match atI ds i with
    | some d => .ok d
    | none => .bad
  | .str s, .int i => if s.length ≤ 1000000 then (match atI s.cps.toList i with
    | some c => .ok (.str ⟨#[c]⟩)
    | none => .bad) else .bad
  | _, _ => .bad
/-- xs[lo:hi] -/
def cutL {α : Type} (xs : List α) (lo hi : Option Int) : List α := (xs.drop (HT.sIx xs.length 0 lo)).take (HT.sIx xs.length xs.length hi - HT.sIx xs.length 0 lo)
@[simp] def slD (d : Dat) (lo hi : Option Int) : Res Dat := match d with
  | .list ds => .ok (.list (cutL ds lo hi))
  | .tuple ds => .ok (.tuple (cutL ds lo hi))
  | .str s => if s.length ≤ 1000000 then .ok (.str (cutS s lo hi)) else .bad
  | _ => .bad
def strsD : List Dat → Option (List Str)
  | [] => some []
  | .str x :: r => (strsD r).map (x :: ·)
  | _ :: _ => none
def intsD : List Dat → Option (List Int)
  | [] => some []
  | .int x :: r => (intsD r).map (x :: ·)
  | _ :: _ => none
def boolsD : List Dat → Option (List Bool)
  | [] => some []
  | .bool x :: r => (boolsD r).map (x :: ·)
  | _ :: _ => none
/-- texts in order -/
def leS (a b : Str) : Bool := !ltCps b.cps.toList a.cps.toList
def sortStr (xs : List Str) : List Str := xs.mergeSort leS
def minL (n : Int) (r : List Int) : Int := r.foldl (fun a b => if b < a then b else a) n
def anyD (ds : List Dat) : Res Dat := match boolsD ds with
  | some bs => .ok (.bool (bs.any id))
  | none => .bad
def allD (ds : List Dat) : Res Dat := match boolsD ds with
  | some bs => .ok (.bool (bs.all id))
  | none => .bad
def minD (ds : List Dat) : Res Dat := match intsD ds with
  | some (n :: r) => .ok (.int (minL n r))
  | _ => .bad
/-- names in order -/
def ltN : List Str → List Str → Bool
  | [], [] => false
  | [], _ :: _ => true
  | _ :: _, [] => false
  | a :: r, b :: q => if a = b then ltN r q else decide (a.cps.toList < b.cps.toList)
def leN (a b : List Str) : Bool := !ltN b a
def sortN (N : List (List Str)) : List (List Str) := N.mergeSort leN
def namesD : List Dat → Option (List (List Str))
  | [] => some []
  | .tuple d :: r => match strsD d with
    | some a => (namesD r).map (a :: ·)
    | none => none
  | _ :: _ => none
def sortND (ds : List Dat) : Res Dat := match namesD ds with
  | some N => if N.length < 64 then .ok (.list ((sortN N).map fun a => .tuple (a.map PyData.str))) else .bad
  | none => .bad
def sortD (ds : List Dat) : Res Dat := match strsD ds with
  | some xs => if xs.length < 64 then .ok (.list ((sortStr xs).map PyData.str)) else .bad
  | none => sortND ds
inductive Bi where | len | min2 | max2 | int | str | ord | tuple | list | any | all | min1 | sorted
@[simp] def biD : Bi → List Dat → Res Dat
  | .len, [.str s] => if s.length ≤ 1000000 then .ok (.int s.length) else .bad
  | .len, [.list ds] => .ok (.int ds.length)
  | .len, [.tuple ds] => .ok (.int ds.length)
  | .min2, [.int a, .int b] => .ok (.int (if b < a then b else a))
  | .max2, [.int a, .int b] => .ok (.int (if b > a then b else a))
  | .int, [.str s] => match PySem.intText? s with
    | some n => if s.length ≤ 640 then .ok (.int n) else .bad
    | none => .bad
  | .int, [.bool b] => .ok (.int (if b then 1 else 0))
  | .str, [.int i] => if i.natAbs.log2 < 1920 then .ok (.str (toString i)) else .bad
  | .ord, [.str s] => if s.length = 1 then .ok (.int ((s.cps.getD 0 0 : Nat) : Int)) else .bad
  | .tuple, [.list ds] => .ok (.tuple ds)
  | .tuple, [.tuple ds] => .ok (.tuple ds)
  | .list, [.list ds] => .ok (.list ds)
  | .list, [.tuple ds] => .ok (.list ds)
  | .any, [.list ds] => anyD ds
  | .all, [.list ds] => allD ds
  | .min1, [.list ds] => minD ds
  | .sorted, [.list ds] => sortD ds
  | _, _ => .bad
/-- isinstance of a built-in class -/
inductive Ty where | int | str | bool | tuple | list
  deriving DecidableEq
@[simp] def isiD : Ty → Dat → Res Bool
  | .int, .int _ => .ok true
  | .int, .bool _ => .ok true
  | .str, .str _ => .ok true
  | .bool, .bool _ => .ok true
  | .tuple, .tuple _ => .ok true
  | .list, .list _ => .ok true
  | _, .dict _ => .bad
  | _, _ => .ok false
inductive M0 where | lower | upper
def m0D : M0 → Dat → Res Dat
  | .lower, .str a => if a.length ≤ 1000000 then .ok (.str (Txt.lower a)) else .bad
  | .upper, .str a => if a.length ≤ 1000000 then .ok (.str (Txt.upper a)) else .bad
  | _, _ => .bad
inductive M1 where | startswith | endswith | split | join | index | rstrip | find
def joinD (a : Str) (ds : List Dat) : Res Dat := match strsD ds with
  | some ys => if (ys.map (·.length)).sum + ys.length * a.length ≤ 1000000 then .ok (.str (Txt.join a ys)) else .bad
  | none => .bad
def m1D : M1 → Dat → Dat → Res Dat
  | .startswith, .str a, .str b => .ok (.bool (Txt.startswith a b))
  | .endswith, .str a, .str b => .ok (.bool (Txt.endswith a b))
  | .split, .str a, .str b => if b.length ≠ 0 ∧ a.length ≤ 1000000 then .ok (.list ((Txt.split a b).map PyData.str)) else .bad
  | .join, .str a, .list ds => joinD a ds
  | .join, .str a, .tuple ds => joinD a ds
  | .index, .str a, .str b => match Builtin.Str.occurrences a b 0 a.length 1 with
    | k :: _ => .ok (.int (k : Nat))
    | [] => .bad
  | .find, .str a, .str b => .ok (.int (Txt.find a b))
  | .rstrip, .str a, .str b => if a.length ≤ 1000000 then .ok (.str (Txt.rstripChars a b)) else .bad
  | _, _, _ => .bad

/-! ### the text -/
inductive Tg where
  | nm (i : Nat)
  | tp (is : List Nat)
mutual
inductive E where
  | var (i : Nat) | tv (i : Nat)
  | non | bl (b : Bool) | int (i : Int) | str (x : Str)
  | con (k : Nat)
  | bin (o : Bop) (a b : E)
  | neg (a : E)
  | cmp (o : Cop) (a b : E)
  | chn (o p : Cop) (a b c : E)
  | and (a b : E) | or (a b : E) | not (a : E)
  | ife (c a b : E)
  | ix (a i : E)
  | sl (a lo hi : E)
  | no
  | tup (es : Es) | lst (es : Es)
  | cal (k : Nat) (es : Es)
  | calk (k : Nat) (es : Es) (w : Str) (e : E)
  | bi (f : Bi) (es : Es)
  | isi (t : Ty) (e : E)
  | iss (a : Addr) (dx : Option Addr) (c : Str) (i : Nat) (C : Str)
  | xrw (a : Addr) (dx : Option Addr) (c : Str) (i : Nat)
  | nrw (c : Str) (e : E)
  | m0 (m : M0) (o : E)
  | m1 (m : M1) (o e : E)
  | dc0
  | dc1 (k e : E)
  | dget (o k e : E)
  | lc (own : List Nat) (tg : Tg) (it : It) (tt elt : E)
inductive Es where
  | nil | cons (e : E) (r : Es)
inductive It where
  | seq (e : E) | lent (i : Nat) | own (i : Nat) | rng1 (a : E) | rng2 (a b : E)
end
/-- the program: its defs by number, its constants -/
structure Pg where
  F : Nat → List Dat → Res Dat
  C : Nat → Dat
  /-- does an exception of the first class meet a clause of the second -/
  X : Str → Str → Option Bool
  /-- is an exception of the first class an instance of the second -/
  I : Str → Str → Option Bool

def getS (ρ : En) (i : Nat) : Sl := ρ.getD i .un
@[simp] def unS : List Nat → En → En
  | [], ρ => ρ
  | i :: is, ρ => (unS is ρ).set i .un
@[simp] def setT : Tg → Dat → En → Res En
  | .nm i, d, ρ => .ok (ρ.set i (.fz d))
  | .tp is, .tuple ds, ρ => if ds.length = is.length then .ok ((is.zip ds).foldl (fun r p => r.set p.1 (.fz p.2)) ρ) else .bad
  | .tp _, _, _ => .bad
@[simp] def partD : Dat → Res (Option Int)
  | .int i => .ok (some i)
  | _ => .bad
/-- nothing may be raised here -/
def noX {α : Type} : Res α → Res α
  | .ok a => .ok a
  | _ => .bad
@[simp] theorem noX_ok {α : Type} (a : α) : noX (.ok a) = .ok a := nrfl rfl
@[simp] theorem noX_bad {α : Type} : noX (.bad : Res α) = .bad := nrfl rfl
def lcL (f : Dat → Res (Option Dat)) : List Dat → Res (List Dat)
  | [] => .ok []
  | x :: xs => f x >>= fun o => lcL f xs >>= fun r => .ok (match o with
    | some y => y :: r
    | none => r)
def rngL (a : Int) (n : Nat) : List Dat := (List.range n).map fun i => PyData.int (a + (i : Nat))
@[simp] def itemsD : Dat → Res (List Dat)
  | .list ds => .ok ds
  | .tuple ds => .ok ds
  | .str s => .ok (s.cps.toList.map fun c => PyData.str ⟨#[c]⟩)
  | _ => .bad
def small62 (a : Int) : Bool := decide (-(2 ^ 62) ≤ a ∧ a < 2 ^ 62)
@[simp] def strD : Dat → Res Str
  | .str s => .ok s
  | _ => .bad
/-- what stands by a text -/
def lkD : List (Dat × Dat) → Str → Option Dat
  | [], _ => none
  | (.str y, d) :: r, x => if y = x then some d else lkD r x
  | (_, _) :: r, x => lkD r x
@[simp] def isDct : Dat → Res (List (Dat × Dat))
  | .dict kvs => .ok kvs
  | _ => .bad
/-- a part of a slice, left out or an int -/
@[simp] def optE : E → Res Dat → Res (Option Int)
  | .no, _ => .ok none
  | _, r => r >>= fun d => partD d
mutual
def ev (P : Pg) : E → En → Res Dat
  | .var i, ρ => match getS ρ i with
    | .fz d => .ok d
    | _ => .bad
  | .tv i, ρ => match getS ρ i with
    | .fz (.list ds) => .ok (.list ds)
    | .ow ds => .ok (.list ds)
    | .ln ds => .ok (.list ds)
    | _ => .bad
  | .non, _ => .ok .none
  | .bl b, _ => .ok (.bool b)
  | .int i, _ => .ok (.int i)
  | .str x, _ => .ok (.str x)
  | .con k, _ => .ok (P.C k)
  | .bin o a b, ρ => ev P a ρ >>= fun d => ev P b ρ >>= fun e => binD o d e
  | .neg a, ρ => ev P a ρ >>= fun d => match d with
    | .int i => .ok (.int (-i))
    | _ => .bad
  | .cmp o a b, ρ => ev P a ρ >>= fun d => ev P b ρ >>= fun e => cmpD o d e >>= fun r => .ok (.bool r)
  | .chn o p a b c, ρ => ev P a ρ >>= fun d => ev P b ρ >>= fun e => cmpD o d e >>= fun r => match r with
    | true => ev P c ρ >>= fun f => cmpD p e f >>= fun r => .ok (.bool r)
    | false => .ok (.bool false)
  | .and a b, ρ => ev P a ρ >>= fun d => truD d >>= fun r => match r with
    | true => ev P b ρ
    | false => .ok d
  | .or a b, ρ => ev P a ρ >>= fun d => truD d >>= fun r => match r with
    | true => .ok d
    | false => ev P b ρ
  | .not a, ρ => ev P a ρ >>= fun d => truD d >>= fun r => .ok (.bool (!r))
  | .ife c a b, ρ => ev P c ρ >>= fun d => truD d >>= fun r => match r with
    | true => ev P a ρ
    | false => ev P b ρ
  | .ix a i, ρ => ev P a ρ >>= fun d => ev P i ρ >>= fun e => ixD d e
  | .sl a lo hi, ρ => ev P a ρ >>= fun d => optE lo (ev P lo ρ) >>= fun l => optE hi (ev P hi ρ) >>= fun h => slD d l h
  | .no, _ => .bad
  | .tup es, ρ => evs P es ρ >>= fun ds => if ds.length ≤ 1000000 then .ok (.tuple ds) else .bad
  | .lst es, ρ => evs P es ρ >>= fun ds => if ds.length ≤ 1000000 then .ok (.list ds) else .bad
  | .cal k es, ρ => evs P es ρ >>= fun ds => P.F k ds
  | .calk k es _ e, ρ => evs P es ρ >>= fun ds => ev P e ρ >>= fun d => P.F k (ds ++ [d])
  | .bi f es, ρ => evs P es ρ >>= fun ds => biD f ds
  | .iss a dx c i C, ρ => match getS ρ i with
    | .ex a' dx' c' _ => if a' = a ∧ dx' = dx ∧ c' = c then (match P.I c C with
      | some b => .ok (.bool b)
      | none => .bad) else .bad
    | _ => .bad
  | .nrw _ e, ρ => ev P e ρ
  | .xrw a dx c i, ρ => match getS ρ i with
    | .ex a' dx' c' (some d) => if a' = a ∧ dx' = dx ∧ c' = c then .ok d else .bad
    | _ => .bad
  | .isi t e, ρ => ev P e ρ >>= fun d => isiD t d >>= fun r => .ok (.bool r)
  | .m0 m o, ρ => ev P o ρ >>= fun d => m0D m d
  | .m1 m o a, ρ => ev P o ρ >>= fun d => strD d >>= fun s => ev P a ρ >>= fun e => m1D m (.str s) e
  | .dc0, _ => .ok (.dict [])
  | .dc1 k e, ρ => ev P k ρ >>= fun d => strD d >>= fun x => ev P e ρ >>= fun y => .ok (.dict [(.str x, y)])
  | .dget o k e, ρ => ev P o ρ >>= fun d => isDct d >>= fun kvs => ev P k ρ >>= fun d => strD d >>= fun x => ev P e ρ >>= fun y => .ok ((lkD kvs x).getD y)
  | .lc own tg it tt elt, ρ => evI P it ρ >>= fun xs => if xs.length ≤ 1000000 then
      lcL (fun x => noX (setT tg x (unS own ρ) >>= fun ρ1 => ev P tt ρ1 >>= fun t => truD t >>= fun r => match r with
        | true => ev P elt ρ1 >>= fun y => .ok (some y)
        | false => .ok none)) xs >>= fun ys => .ok (.list ys) else .bad
def evs (P : Pg) : Es → En → Res (List Dat)
  | .nil, _ => .ok []
  | .cons e r, ρ => ev P e ρ >>= fun d => evs P r ρ >>= fun ds => .ok (d :: ds)
def evI (P : Pg) : It → En → Res (List Dat)
  | .seq e, ρ => ev P e ρ >>= fun d => itemsD d
  | .lent i, ρ => match getS ρ i with
    | .ln ds => .ok ds
    | _ => .bad
  | .own i, ρ => match getS ρ i with
    | .ow ds => .ok ds
    | _ => .bad
  | .rng1 a, ρ => ev P a ρ >>= fun d => match d with
    | .int n => if small62 n then .ok (rngL 0 n.toNat) else .bad
    | _ => .bad
  | .rng2 a b, ρ => ev P a ρ >>= fun d => ev P b ρ >>= fun e => match d, e with
    | .int m, .int n => if small62 m && small62 n then .ok (rngL m (n - m).toNat) else .bad
    | _, _ => .bad
end

/-! ### statements -/
inductive Out where
  | nx (ρ : En) | ct (ρ : En) | ret (d : Dat) | exc (c : Str) (x : Option Dat) | bad
def Out.of {α : Type} (r : Res α) (f : α → Out) : Out := match r with
  | .ok a => f a
  | .exc c x => .exc c x
  | .bad => .bad
@[simp] theorem out_ok {α : Type} (a : α) (f : α → Out) : Out.of (.ok a) f = f a := nrfl rfl
@[simp] theorem out_bad {α : Type} (f : α → Out) : Out.of (.bad : Res α) f = .bad := nrfl rfl
@[simp] theorem out_exc {α : Type} (c : Str) (x : Option Dat) (f : α → Out) : Out.of (.exc c x : Res α) f = .exc c x := nrfl rfl
mutual
inductive S where
  | set (i : Nat) (e : E)
  | setO (i : Nat) (e : E)
  | tup (is : List Nat) (e : E)
  | app (i : Nat) (e : E)
  | rev (i : Nat)
  | ext (i : Nat) (e : E)
  | ifs (c : E) (a b : Ss)
  | for_ (tmp : List Nat) (tg : Tg) (it : It) (body : Ss)
  | whil (fuel : En → Nat) (tmp : List Nat) (c : E) (body : Ss)
  | ret (e : E) | retF (fl : List Bool) (es : Es) | retL (es : Es) (i : Nat) | retC (e : E) | retO (e : E) | retV (i : Nat) | retN
  | expr (e : E)
  | pass | cont
  | rais (c : Str)
  | nope
  | raisX (c : Str) (e : E)
  | tryX (e : E) (c d : Str) (i : Nat)
  | tryR (e : E) (c : Str) (i j : Nat) (ns : List (List Str))
  | tryB (e : E) (c : Str)
  | tryI (e : E) (c : Str) (i j : Nat) (n1 n2 : List Str)
  | tryE (i : Option Nat) (e : E) (c : Str) (j : Nat) (h : E)
inductive Ss where
  | nil | cons (s : S) (r : Ss) | frz (i : Nat) (r : Ss)
  | lease (i : Nat) (e c1 r c2 : E) (k : Nat) (o : Option E) (rest : Ss)
end
/-- then -/
def Out.thn (o : Out) (f : En → Out) : Out := match o with
  | .nx ρ => f ρ
  | o => o
@[simp] theorem thn_nx (ρ : En) (f : En → Out) : (Out.nx ρ).thn f = f ρ := nrfl rfl
@[simp] theorem thn_ct (ρ : En) (f : En → Out) : (Out.ct ρ).thn f = .ct ρ := nrfl rfl
@[simp] theorem thn_ret (d : Dat) (f : En → Out) : (Out.ret d).thn f = .ret d := nrfl rfl
@[simp] theorem thn_bad (f : En → Out) : (Out.bad).thn f = .bad := nrfl rfl
@[simp] theorem thn_exc (c : Str) (x : Option Dat) (f : En → Out) : (Out.exc c x).thn f = .exc c x := nrfl rfl
/-- a turn's end -/
def Out.turn (o : Out) (f : En → Out) : Out := match o with
  | .nx ρ => f ρ
  | .ct ρ => f ρ
  | o => o
@[simp] theorem turn_nx (ρ : En) (f : En → Out) : (Out.nx ρ).turn f = f ρ := nrfl rfl
@[simp] theorem turn_ct (ρ : En) (f : En → Out) : (Out.ct ρ).turn f = f ρ := nrfl rfl
@[simp] theorem turn_ret (d : Dat) (f : En → Out) : (Out.ret d).turn f = .ret d := nrfl rfl
@[simp] theorem turn_bad (f : En → Out) : (Out.bad).turn f = .bad := nrfl rfl
@[simp] theorem turn_exc (c : Str) (x : Option Dat) (f : En → Out) : (Out.exc c x).turn f = .exc c x := nrfl rfl
/-- xs in turn; tmp: what is forgotten ahead of each turn and behind the last -/
def forL (tmp : List Nat) (f : Dat → En → Out) : List Dat → En → Out
  | [], ρ => .nx (unS tmp ρ)
  | x :: xs, ρ => (f x (unS tmp ρ)).turn (forL tmp f xs)
def whilL (tmp : List Nat) (c : En → Res Bool) (f : En → Out) : Nat → En → Out
  | 0, _ => .bad
  | n + 1, ρ => Out.of (c (unS tmp ρ)) fun b => match b with
    | true => (f (unS tmp ρ)).turn (whilL tmp c f n)
    | false => .nx (unS tmp ρ)
def isLst : Dat → Bool
  | .list _ => true
  | _ => false
/-- only what fl tells may be a list -/
def freshT : List Bool → List Dat → Bool
  | _, [] => true
  | [], d :: ds => !isLst d && freshT [] ds
  | b :: fl, d :: ds => (b || !isLst d) && freshT fl ds
theorem freshT_none : ∀ {fl : List Bool} {ds : List Dat}, freshT fl ds = true → ∀ (i : Nat) (e : Dat), ds[i]? = some e → fl[i]? = none → isLst e = false
  | _, [], _, i, e, h, _ => by simp at h
  | [], d :: ds, h, 0, e, h1, _ => by
    simp only [freshT, Bool.and_eq_true, Bool.not_eq_true'] at h
    simp at h1
    subst h1
    exact h.1
  | [], d :: ds, h, i + 1, e, h1, _ => by
    simp only [freshT, Bool.and_eq_true] at h
    exact freshT_none (fl := []) h.2 i e (by simpa using h1) (by simp)
  | b :: fl, d :: ds, h, 0, e, _, h2 => by simp at h2
  | b :: fl, d :: ds, h, i + 1, e, h1, h2 => by
    simp only [freshT, Bool.and_eq_true] at h
    exact freshT_none h.2 i e (by simpa using h1) (by simpa using h2)
theorem freshT_false : ∀ {fl : List Bool} {ds : List Dat}, freshT fl ds = true → ∀ (i : Nat) (e : Dat), ds[i]? = some e → fl[i]? = some false → isLst e = false
  | _, [], _, i, e, h, _ => by simp at h
  | [], d :: ds, h, i, e, _, h2 => by simp at h2
  | b :: fl, d :: ds, h, 0, e, h1, h2 => by
    simp only [freshT, Bool.and_eq_true, Bool.or_eq_true, Bool.not_eq_true'] at h
    simp at h1 h2
    subst h1 h2
    exact h.1.resolve_left (by simp)
  | b :: fl, d :: ds, h, i + 1, e, h1, h2 => by
    simp only [freshT, Bool.and_eq_true] at h
    exact freshT_false h.2 i e (by simpa using h1) (by simpa using h2)
def isAll (f : Str → Option Bool) : List Str → Option (List Bool)
  | [] => some []
  | c :: r => match f c, isAll f r with
    | some b, some bs => some (b :: bs)
    | _, _ => none
/-- try: e except c as x: y = (isinstance(x, ..), ..); y = y + (..) -/
def tryIO (m : Str → Option Bool) (f : Str → Str → Option Bool) (i j : Nat) (n1 n2 : List Str) (ρ : En) : Res Dat → Out
  | .ok _ => .nx ρ
  | .exc c x => match m c with
    | some true => match x, isAll (f c) n1, isAll (f c) n2 with
      | none, some b1, some b2 => if i < ρ.length ∧ j < ρ.length ∧ i ≠ j ∧ b1.length + b2.length ≤ 1000 then .nx ((ρ.set j (.fz (.tuple ((b1 ++ b2).map .bool)))).set i .un) else .bad
      | _, _, _ => .bad
    | some false => .exc c x
    | none => .bad
  | .bad => .bad
/-- try: return e except c: raise d(x) -/
def tryXO (m : Str → Option Bool) (d : Str) (s : Sl) : Res Dat → Out
  | .ok v => .ret v
  | .exc c x => match m c with
    | some true => match s with
      | .fz v => .exc d (some v)
      | _ => .bad
    | some false => .exc c x
    | none => .bad
  | .bad => .bad
/-- try: e except c as x: y = (x.row, isinstance(x, ..), ..); y = y + (..); .. -/
def tryRO (m : Str → Option Bool) (f : Str → Str → Option Bool) (i j : Nat) (ns : List (List Str)) (ρ : En) : Res Dat → Out
  | .ok _ => .nx ρ
  | .exc c x => match m c with
    | some true => match x, isAll (f c) ns.flatten with
      | some d, some bs => if i < ρ.length ∧ j < ρ.length ∧ i ≠ j ∧ bs.length ≤ 1000 then .nx ((ρ.set j (.fz (.tuple (d :: bs.map .bool)))).set i .un) else .bad
      | _, _ => .bad
    | some false => .exc c x
    | none => .bad
  | .bad => .bad
def keepO (i : Option Nat) (ρ : En) (d : Dat) : Out := match i with
  | some i => .nx (ρ.set i (.fz d))
  | none => .nx ρ
/-- try: e (or x = e) except c: y = h -/
def tryO (m : Str → Option Bool) (i : Option Nat) (j : Nat) (ρ : En) (h : Res Dat) : Res Dat → Out
  | .ok d => keepO i ρ d
  | .exc c x => match m c with
    | some true => Out.of h fun d => .nx (ρ.set j (.fz d))
    | some false => .exc c x
    | none => .bad
  | .bad => .bad
/-- a list at place k of a tuple -/
def leaseK (d : Dat) (k : Nat) : Bool := match d with
  | .tuple ds => match ds[k]? with
    | some (.list es) => decide (es.length < 1000000)
    | _ => false
  | _ => false
mutual
def exS (P : Pg) : S → En → Out
  | .set i e, ρ => Out.of (ev P e ρ) fun d => .nx (ρ.set i (.fz d))
  | .setO i e, ρ => Out.of (ev P e ρ) fun d => match d with
    | .list ds => .nx (ρ.set i (.ow ds))
    | _ => .bad
  | .tup is e, ρ => Out.of (ev P e ρ) fun d => Out.of (setT (.tp is) d ρ) .nx
  | .app i e, ρ => match getS ρ i with
    | .ow ds => Out.of (ev P e ρ) fun d => if ds.length < 1000000 then .nx (ρ.set i (.ow (ds ++ [d]))) else .bad
    | _ => .bad
  | .rev i, ρ => match getS ρ i with
    | .ow ds => .nx (ρ.set i (.ow ds.reverse))
    | _ => .bad
  | .ext i e, ρ => match getS ρ i with
    | .ow ds => Out.of (ev P e ρ) fun d => match d with
      | .list es => if ds.length + es.length < 1000000 then .nx (ρ.set i (.ow (ds ++ es))) else .bad
      | _ => .bad
    | _ => .bad
  | .ifs c a b, ρ => Out.of (ev P c ρ >>= fun d => truD d) fun r => match r with
    | true => exSs P a ρ
    | false => exSs P b ρ
  | .for_ tmp tg it body, ρ => Out.of (evI P it ρ) fun xs => forL tmp (fun x ρ => Out.of (setT tg x ρ) (exSs P body)) xs ρ
  | .whil fuel tmp c body, ρ => whilL tmp (fun ρ => ev P c ρ >>= fun d => truD d) (exSs P body) (fuel ρ) ρ
  | .ret e, ρ => Out.of (ev P e ρ) .ret
  | .retO e, ρ => Out.of (ev P e ρ) .ret
  | .retC e, ρ => Out.of (ev P e ρ) .ret
  | .retF fl es, ρ => Out.of (evs P es ρ) fun ds => if ds.length ≤ 1000000 ∧ freshT fl ds = true then .ret (.tuple ds) else .bad
  | .retL es i, ρ => match getS ρ i with
    | .ow xs => Out.of (evs P es ρ) fun ds => if ds.length < 1000000 ∧ freshT [] ds = true then .ret (.tuple (ds ++ [.list xs])) else .bad
    | _ => .bad
  | .retV i, ρ => match getS ρ i with
    | .ow ds => .ret (.list ds)
    | _ => .bad
  | .retN, _ => .ret .none
  | .expr e, ρ => Out.of (ev P e ρ) fun _ => .nx ρ
  | .pass, ρ => .nx ρ
  | .cont, ρ => .ct ρ
  | .rais c, _ => .exc c none
  | .nope, _ => .bad
  | .raisX c e, ρ => Out.of (ev P e ρ) fun d => .exc c (some d)
  | .tryX e c d i, ρ => tryXO (fun c' => P.X c' c) d (getS ρ i) (ev P e ρ)
  | .tryR e c i j ns, ρ => tryRO (fun c' => P.X c' c) P.I i j ns ρ (ev P e ρ)
  | .tryB e _, ρ => match ev P e ρ with
    | .ok d => .ret d
    | _ => .bad
  | .tryI e c i j n1 n2, ρ => tryIO (fun c' => P.X c' c) P.I i j n1 n2 ρ (ev P e ρ)
  | .tryE i e c j h, ρ => tryO (fun c' => P.X c' c) i j ρ (ev P h ρ) (ev P e ρ)
def exSs (P : Pg) : Ss → En → Out
  | .nil, ρ => .nx ρ
  | .cons s r, ρ => (exS P s ρ).thn (exSs P r)
  | .frz i r, ρ => match getS ρ i with
    | .ow ds => exSs P r (ρ.set i (.fz (.list ds)))
    | _ => .bad
  | .lease i e c1 r c2 k o rest, ρ => Out.of (ev P e ρ) fun d => Out.of (ev P c1 (ρ.set i (.fz d)) >>= fun t => truD t) fun b => match b with
    | true => Out.of (ev P r (ρ.set i (.fz d))) .ret
    | false => Out.of (ev P c2 (ρ.set i (.fz d)) >>= fun t => truD t) fun b => match b with
      | true => if (leaseK d k && decide (i < ρ.length)) = true then Out.of (ev P (o.getD .non) (ρ.set i (.fz d))) fun _ => exSs P rest (ρ.set i .un) else .bad
      | false => exSs P rest (ρ.set i .un)
end
/-- the slots at the entry -/
@[simp] def ins : List Bool → List Dat → En
  | true :: ws, .list xs :: ds => .ln xs :: ins ws ds
  | _ :: ws, d :: ds => .fz d :: ins ws ds
  | [], d :: ds => .fz d :: ins [] ds
  | _, [] => []
/-- a def as a whole: n slots -/
def runF (P : Pg) (n : Nat) (lent : List Bool) (fr : Bool) (body : Ss) (ds : List Dat) : Res Dat :=
  match exSs P body (ins lent ds ++ List.replicate (n - ds.length) .un) with
  | .ret d => .ok d
  | .nx _ => if fr then .bad else .ok .none
  | .exc c x => .exc c x
  | _ => .bad
end NW
end

section
set_option maxHeartbeats 4000000
/-! Each operation over data, as a rule over the heap. -/
namespace NW
open PySem PySem.Spec PyProof.Rows L2

theorem tuple_mul_same (l : Addr) (items : Array Value) (n : Nat) (sl : Array (Option Value)) (dd : Option Addr) (x : Int) (u : Tok) (c0 : (decide (x < -(2 ^ 63)) || decide (x ≥ 2 ^ 63)) = false) (c1 : (items.isEmpty || x == 1) = true) :
    Meets (Builtin.«tuple.__mul__» ⟨[.ref l, .int x u], []⟩) (fun _ R s => s.heap.get? l = some { cls := .type "tuple", dict := dd, data := .seq items n, slots := sl } ∧
      R (.ok (.ret (Value.ref l))) s) :=
  .of_wp fun prog w A R s h => by
    obtain ⟨hp, g, d, tk, os⟩ := s
    obtain ⟨hl, h⟩ := h
    have f1 := AutoSeq1.idx_int
    wp_walk using wpAny_loadPart' hl
    repeat (first
      | (refine wpAny_ite_false (decide_eq_false (by rw [c0]; exact Bool.false_ne_true)) ?_; wp_walk using wpAny_loadPart' hl)
      | (refine wpAny_ite_true (decide_eq_true c1) ?_; wp_walk using wpAny_loadPart' hl))
    exact ⟨_, rfl, h⟩
theorem tuple_mul_none (l : Addr) (items : Array Value) (n : Nat) (sl : Array (Option Value)) (dd : Option Addr) (x : Int) (u : Tok) (c0 : (decide (x < -(2 ^ 63)) || decide (x ≥ 2 ^ 63)) = false) (c1 : (items.isEmpty || x == 1) = false) (c2 : (decide (x ≤ 0) || items.isEmpty) = true) :
    Meets (Builtin.«tuple.__mul__» ⟨[.ref l, .int x u], []⟩) (fun _ R s => s.heap.get? l = some { cls := .type "tuple", dict := dd, data := .seq items n, slots := sl } ∧
      R (.ok (.ret (Value.ref s.heap.objs.size))) { s with heap := s.heap.push { cls := Value.type "tuple", data := Data.seq #[] }, toks := s.toks }) :=
  .of_wp fun prog w A R s h => by
    obtain ⟨hp, g, d, tk, os⟩ := s
    obtain ⟨hl, h⟩ := h
    have f1 := AutoSeq1.idx_int
    wp_walk using wpAny_loadPart' hl
    repeat (first
      | (refine wpAny_ite_false (decide_eq_false (by rw [c0]; exact Bool.false_ne_true)) ?_; wp_walk using wpAny_loadPart' hl)
      | (refine wpAny_ite_false (decide_eq_false (by rw [c1]; exact Bool.false_ne_true)) ?_; wp_walk using wpAny_loadPart' hl)
      | (refine wpAny_ite_true (decide_eq_true c2) ?_; wp_walk using wpAny_loadPart' hl))
    exact ⟨_, rfl, h⟩
section
variable {X : Cx}
theorem op_repT01 : OpR X (binaryOp .Mult) (fun x y H Q => ∃ l k xs, x = .ref l ∧ y = .int k ∧ SqT X.K H l xs ∧ (k = 0 ∨ k = 1) ∧ (k = 1 ∨ xs = [] → Q (.ref l) H) ∧ (k = 0 → xs ≠ [] → ∀ p, H p = none → Q (.ref p) (upd H p (.tup [])))) := by
  intro pins s σ H x y v u Q I rx ry h
  obtain ⟨l, k, xs, rfl, rfl, hT, hk, q1, q2⟩ := h
  cases rx
  obtain ⟨t, rfl⟩ := ry
  obtain ⟨its, r, ⟨⟨cls, dd, data, sl⟩, ho, hc, n, hd⟩, hs⟩ := I.tuple hT
  simp only at hc hd
  subst hc hd
  have hle : its.length = xs.length := r.length.symm
  have c0 : (decide (k < -(2 ^ 63)) || decide (k ≥ 2 ^ 63)) = false := by
    rw [decide_eq_false (by omega), decide_eq_false (by omega)] <;> rfl
  cases hc1 : (its.toArray.isEmpty || k == 1) with
  | true =>
    refine wpAny_binaryOp_repeat_ref (T := "tuple") (U := "int") (by decide) ⟨_, ho, rfl⟩ (fun s' => typeIs_int s' k t) noFill_tuple_mul F.fills_int_mul F.slot_int_rmul repeat_tuple F.slot_int_index.lookup
      (call_meets F.slot_int_rmul (typeIs_int s k t) F.entry_int_rmul (F.args_int_rmul_2 _ _) (int_rmul_tuple k t l its.toArray n dd sl)
        ⟨ho, rfl, ⟨_, ho, rfl⟩, call_meets F.slot_tuple_mul ⟨_, ho, rfl⟩ F.entry_tuple_mul (F.args_tuple_mul_2 _ _) (tuple_mul_same l its.toArray n sl dd k t c0 hc1) ⟨ho, ?_⟩⟩)
    refine ⟨.ref l, H, I, rfl, q1 ?_⟩
    rw [Bool.or_eq_true] at hc1
    rcases hc1 with hz | hz
    · right
      cases its with
      | nil => exact List.eq_nil_of_length_eq_zero hle.symm
      | cons _ _ => cases hz
    · left
      exact eq_of_beq hz
  | false =>
    rw [Bool.or_eq_false_iff] at hc1
    have hk0 : k = 0 := by
      rcases hk with hk | hk
      · exact hk
      · rw [hk] at hc1
        exact absurd hc1.2 (by decide)
    have hne : xs ≠ [] := fun e => by
      rw [e] at hle
      have : its = [] := List.eq_nil_of_length_eq_zero hle
      rw [this] at hc1
      exact absurd hc1.1 (by decide)
    have c2 : (decide (k ≤ 0) || its.toArray.isEmpty) = true := by rw [hk0]; rfl
    refine wpAny_binaryOp_repeat_ref (T := "tuple") (U := "int") (by decide) ⟨_, ho, rfl⟩ (fun s' => typeIs_int s' k t) noFill_tuple_mul F.fills_int_mul F.slot_int_rmul repeat_tuple F.slot_int_index.lookup
      (call_meets F.slot_int_rmul (typeIs_int s k t) F.entry_int_rmul (F.args_int_rmul_2 _ _) (int_rmul_tuple k t l its.toArray n dd sl)
        ⟨ho, rfl, ⟨_, ho, rfl⟩, call_meets F.slot_tuple_mul ⟨_, ho, rfl⟩ F.entry_tuple_mul (F.args_tuple_mul_2 _ _) (tuple_mul_none l its.toArray n sl dd k t c0 (by rw [Bool.or_eq_false_iff]; exact hc1) c2) ⟨ho, ?_⟩⟩)
    refine ⟨.ref s.heap.objs.size, _, I.laid (t' := s.toks) (o := .tup []) (fun b ob q => Heap.get?_push_of_some _ q) (Nat.le_refl _) ?_, rfl, q2 hk0 hne _ (I.hok.fresh (Nat.le_refl _))⟩
    exact ⟨by simp, [], .nil, IsTup.new _ _⟩
theorem op_mul_strI : OpR X (binaryOp .Mult) (fun x y H Q => ∃ a k, x = .str a ∧ y = .int k ∧ a.length ≤ 16 ∧ 0 ≤ k ∧ k ≤ 1000 ∧ Q (.str (Txt.mul a k)) H) := by
  intro pins s σ H x y v u Q I rx ry h
  obtain ⟨a, k, rfl, rfl, h1, h2, h3, q⟩ := h
  obtain ⟨t, rfl⟩ := rx
  obtain ⟨t', rfl⟩ := ry
  exact PySem.W.KXi.mul rfl h1 (by omega) (by omega) fun t2 k2 _ _ => ⟨.str (Txt.mul a k), H, I.kept (t' := k2) fun _ _ z => z, ⟨_, rfl⟩, q⟩
end
/-- a thing that may be read here: still, or a list whose items are still -/
inductive RW (K : PySem.W.Frag) (H G : Hp) : V → Dat → Prop
  | st {v : V} {d : Dat} : Rep K G v d → RW K H G v d
  | wk {a : Addr} {vs : List V} {ds : List Dat} : SqL K H a vs → Reps K G vs ds → RW K H G (.ref a) (.list ds)
section
variable {K : PySem.W.Frag} {H G H' G' : Hp}
theorem RW.here (s : Same G H) {v : V} {d : Dat} (r : RW K H G v d) : Rep K H v d := by
  cases r with
  | st r => exact r.mono s
  | wk q r => exact .lst q (r.mono s)
theorem RW.ext (x : Ext H G H' G') {v : V} {d : Dat} (r : RW K H G v d) : RW K H' G' v d := by
  cases r with
  | st r => exact .st (r.mono x.stl)
  | wk q r => exact .wk (sqL_keep x.all q) (r.mono x.stl)
theorem RW.list (s : Same G H) {v : V} {ds : List Dat} (r : RW K H G v (.list ds)) : ∃ a vs, v = .ref a ∧ SqL K H a vs ∧ Reps K G vs ds := by
  cases r with
  | st r => cases r with | lst q r => exact ⟨_, _, rfl, sqL_keep s q, r⟩
  | wk q r => exact ⟨_, _, rfl, q, r⟩
theorem RW.tup (s : Same G H) {v : V} {ds : List Dat} (r : RW K H G v (.tuple ds)) : ∃ a vs, v = .ref a ∧ SqT K G a vs ∧ Reps K G vs ds := by
  cases r with
  | st r => cases r with | tup q r => exact ⟨_, _, rfl, q, r⟩
theorem RW.int {v : V} {i : Int} (r : RW K H G v (.int i)) : v = .int i := by
  cases r with | st r => cases r; rfl
theorem RW.str {v : V} {i : Str} (r : RW K H G v (.str i)) : v = .str i := by
  cases r with | st r => cases r; rfl
theorem RW.non {v : V} (r : RW K H G v .none) : v = .non := by
  cases r with | st r => cases r; rfl
theorem RW.bool {v : V} {b : Bool} (r : RW K H G v (.bool b)) : v = .bl b := by
  cases r with | st r => cases r; rfl
end

/-- a result that stays as it is -/
def Fin (K : PySem.W.Frag) (H G : Hp) (Q : VK) (d : Dat) : Prop := ∀ v H' G', Ext H G H' G' → Rep K G' v d → Q v H'
/-- a new list -/
def New (K : PySem.W.Frag) (H G : Hp) (Q : VK) (ds : List Dat) : Prop := ∀ a vs H' G', Ext H G H' G' → H a = none → G' a = none → H' a = some (.lst vs) → Reps K G' vs ds → Q (.ref a) H'
section
variable {K : PySem.W.Frag} {H G : Hp} {Q : VK}
theorem Fin.flat (s : Same G H) {v : V} {d : Dat} (f : Fin K H G Q d) (r : Rep K G v d) : Q v H := f v H G (Ext.refl s) r
theorem Fin.here (s : Same G H) {v : V} {d : Dat} (f : Fin K H G Q d) (r : Rep K G v d) : Q v H := f v H G (Ext.refl s) r
/-- a new tuple -/
theorem Fin.tup (s : Same G H) {vs : List V} {ds : List Dat} (f : Fin K H G Q (.tuple ds)) (r : Reps K G vs ds) (p : Addr) (np : H p = none) : Q (.ref p) (upd H p (.tup vs)) :=
  f _ _ (upd G p (.tup vs)) (Ext.made s np _) (.tup (SqT.of upd_same) (r.mono (Ext.made s np _).stl))
theorem New.lst (s : Same G H) {vs : List V} {ds : List Dat} (f : New K H G Q ds) (r : Reps K G vs ds) (p : Addr) (np : H p = none) : Q (.ref p) (upd H p (.lst vs)) :=
  f p vs _ G (Ext.laid s np _) np (s.free np) upd_same r
/-- a new list may be taken as one that stays -/
theorem New.still {ds : List Dat} (f : Fin K H G Q (.list ds)) : New K H G Q ds := fun a vs H' G' x na ng ha r => by
  have y : Ext H G H' (upd G' a (.lst vs)) := by
    refine ⟨x.all, fun b o e => ?_, fun b o e => ?_, fun b q => ?_⟩
    · have z := x.stl b o e
      rw [upd_ne (ne_of_none z ng)]; exact z
    · by_cases hb : b = a
      · subst hb; rw [upd_same] at e; rw [← e]; exact ha
      · rw [upd_ne hb] at e; exact x.sub b o e
    · by_cases hb : b = a
      · subst hb; exact .inr na
      · rw [upd_ne hb] at q; exact x.new b q
  have z : Same G' (upd G' a (.lst vs)) := fun b o e => by rw [upd_ne (ne_of_none e ng)]; exact e
  exact f _ _ _ y (.lst (SqL.of upd_same) (r.mono z))
end
/-- a binary operation by data -/
def R2D (K : PySem.W.Frag) (f : Dat → Dat → Res Dat) : R2 := fun x y H Q => ∃ G d e r, Same G H ∧ RW K H G x d ∧ RW K H G y e ∧ f d e = .ok r ∧ Fin K H G Q r
def opB (o : Bop) : Operator := match o with
  | .add => .Add
  | .sub => .Sub
  | .mul => .Mult
  | .div => .FloorDiv
  | .mod => .Mod
  | .pow => .Pow
theorem le_line {n : Nat} (h : n ≤ 1000000) : n ≤ sizeLine := by rw [sizeLine_eq]; omega
theorem lt_line {n : Nat} (h : n < 1000000) : n < sizeLine := by rw [sizeLine_eq]; omega
section
variable {X : Cx}
/-- xs + ys, wherever they stand: a new list -/
def rCatS (K : PySem.W.Frag) : R2 := fun x y H Q => ∃ l b xs zs, x = .ref l ∧ y = .ref b ∧ SqL K H l xs ∧ SqL K H b zs ∧ xs.length + zs.length ≤ sizeLine ∧
  ∀ p, H p = none → Q (.ref p) (upd H p (.lst (xs ++ zs)))
theorem op_catS : OpR X (binaryOp .Add) (rCatS X.K) := by
  intro pins s σ H x y v u Q I rx ry h
  obtain ⟨l, b, xs, zs, rfl, rfl, h1, h2, hz, q⟩ := h
  cases rx
  cases ry
  obtain ⟨us, r1, p1, _⟩ := I.list h1
  obtain ⟨ws, r2, p2, _⟩ := I.list h2
  obtain ⟨⟨c1, d1, t1, sl1⟩, e1, k1, n1, m1⟩ := p1.isList
  obtain ⟨⟨c2, d2, t2, sl2⟩, e2, k2, n2, m2⟩ := p2.isList
  simp only at k1 m1 k2 m2
  subst k1 m1 k2 m2
  have z1 := r1.length
  have z2 := r2.length
  have M := PyProof.Rows.list_addW l b us.toArray ws.toArray n1 n2 d1 d2 sl1 sl2 (by
    rw [List.size_toArray, List.size_toArray]; omega)
  refine concat_meets ⟨_, e1, rfl⟩ ⟨_, e2, rfl⟩ noFill_list_add seq_list_add
    PySem.F.slot_list_add PySem.F.entry_list_add (PySem.F.args_list_add_2 _ _) M ⟨e1, e2, ?_⟩
  have ea : us.toArray ++ ws.toArray = (us ++ ws).toArray := by simp
  rw [ea]
  exact ⟨.ref _, _, I.lnew (t' := s.toks) (r1.append r2) (by rw [List.length_append]; exact hz), rfl, q _ I.fresh⟩
theorem op_bin (o : Bop) : OpR X (binaryOp (opB o)) (R2D X.K (binD o)) := by
  intro pins s σ H x y v u Q I rx ry h
  obtain ⟨G, d, e, r, sm, rd, re, hf, fin⟩ := h
  cases o
  · -- add
    cases d <;> cases e <;> simp only [binD] at hf <;> try (cases hf; done)
    · cases hf
      have := rd.int; subst this
      have := re.int; subst this
      exact op_add pins s σ H _ _ v u Q I rx ry ⟨_, _, rfl, rfl, fin.flat sm (.int _)⟩
    · split at hf
      · cases hf
        have := rd.str; subst this
        have := re.str; subst this
        rename_i hz
        exact op_add_str pins s σ H _ _ v u Q I rx ry ⟨_, _, rfl, rfl, le_line hz, fin.flat sm (.str _)⟩
      · cases hf
    · split at hf
      · cases hf
        rename_i ds es hz
        obtain ⟨a, vs, rfl, q1, r1⟩ := rd.list sm
        obtain ⟨b, ws, rfl, q2, r2⟩ := re.list sm
        refine op_catS pins s σ H _ _ v u Q I rx ry ?_
        have z : vs.length + ws.length ≤ sizeLine := by rw [r1.length, r2.length]; exact le_line hz
        exact ⟨a, b, vs, ws, rfl, rfl, q1, q2, z, fun p np => (New.still fin).lst sm (r1.append r2) p np⟩
      · cases hf
    · split at hf
      · cases hf
        rename_i ds es hz
        obtain ⟨a, vs, rfl, q1, r1⟩ := rd.tup sm
        obtain ⟨b, ws, rfl, q2, r2⟩ := re.tup sm
        refine op_catA pins s σ H _ _ v u Q I rx ry ⟨a, b, vs, ws, rfl, rfl, sqT_keep sm q1, sqT_keep sm q2, by rw [r1.length, r2.length]; exact le_line hz, fun e => ?_, fun _ e => ?_, fun _ _ p np => fin.tup sm (r1.append r2) p np⟩
        · subst e; cases r1; exact fin.here sm (.tup q2 r2)
        · subst e; cases r2; rw [List.append_nil] at fin; exact fin.here sm (.tup q1 r1)
      · cases hf
  · cases d <;> cases e <;> simp only [binD] at hf <;> try (cases hf; done)
    cases hf
    have := rd.int; subst this
    have := re.int; subst this
    exact op_sub pins s σ H _ _ v u Q I rx ry ⟨_, _, rfl, rfl, fin.flat sm (.int _)⟩
  · cases d <;> cases e <;> simp only [binD] at hf <;> try (cases hf; done)
    rotate_left
    · split at hf
      · cases hf
        rename_i a b hz
        have := rd.str; subst this
        have := re.int; subst this
        exact op_mul_strI pins s σ H _ _ v u Q I rx ry ⟨_, _, rfl, rfl, hz.1, hz.2.1, hz.2.2, fin.flat sm (.str _)⟩
      · cases hf
    · split at hf
      · cases hf
        rename_i ds b hz
        obtain ⟨a, vs, rfl, q1, r1⟩ := rd.tup sm
        have := re.int; subst this
        refine op_repT01 pins s σ H _ _ v u Q I rx ry ⟨a, b, vs, rfl, rfl, sqT_keep sm q1, hz, fun hh => ?_, fun h0 hne p np => ?_⟩
        · rcases hh with hh | hh
          · rw [if_pos hh] at fin
            exact fin.here sm (.tup q1 r1)
          · subst hh
            cases r1
            have e : (if b = 1 then ([] : List Dat) else []) = [] := by split <;> rfl
            rw [e] at fin
            exact fin.here sm (.tup q1 .nil)
        · rw [if_neg (by omega)] at fin
          exact fin.tup sm .nil p np
      · cases hf
    split at hf
    · cases hf
      have := rd.int; subst this
      have := re.int; subst this
      rename_i hz
      exact op_mul pins s σ H _ _ v u Q I rx ry ⟨_, _, rfl, rfl, hz, fin.flat sm (.int _)⟩
    · cases hf
  · cases d <;> cases e <;> simp only [binD] at hf <;> try (cases hf; done)
    split at hf
    · cases hf
      have := rd.int; subst this
      have := re.int; subst this
      rename_i hz
      exact op_fdivN pins s σ H _ _ v u Q I rx ry ⟨_, _, rfl, rfl, hz, fin.flat sm (.int _)⟩
    · cases hf
  · cases d <;> cases e <;> simp only [binD] at hf <;> try (cases hf; done)
    split at hf
    · cases hf
      have := rd.int; subst this
      have := re.int; subst this
      rename_i hz
      exact op_modN pins s σ H _ _ v u Q I rx ry ⟨_, _, rfl, rfl, hz, fin.flat sm (.int _)⟩
    · cases hf
  · cases d <;> cases e <;> simp only [binD] at hf <;> try (cases hf; done)
    split at hf
    · cases hf
      have := rd.int; subst this
      have := re.int; subst this
      rename_i hz
      exact op_pow pins s σ H _ _ v u Q I rx ry ⟨_, _, rfl, rfl, hz, fin.flat sm (.int _)⟩
    · cases hf
end
end NW
end

section
set_option maxHeartbeats 4000000
/-! Comparisons, truth, subscripts, slices, built-ins over data. -/
namespace NW
open PySem PySem.Spec PyProof.Rows L2
section
variable {X : Cx} {pins : List (Addr × Obj)} {σ : L2.St} {H G : Hp} {s : Shared}
theorem rc_eq (I : Inv X pins σ H s) (hs : Same G H) {d e : Dat} {v w : V} {u x : Value} (A : Around) (r : Rep X.K G v d) (q : Rep X.K G w e) (ru : RelV v u) (rx : RelV w x) (hd : ndc d = true) (he : ndc e = true)
    (hu : A.units + PyData.depth d < cLine) : SeqAt.RcAt A s u x (PyData.eqv d e) := by
  have hA : A.units < cLine := Nat.lt_of_le_of_lt (Nat.le_add_right _ _) hu
  have r0 := r
  have q0 := q
  cases r with
  | non =>
    cases ru
    cases q with
    | non => cases rx; exact SeqAt.RcAt.none_none
    | bl b => cases rx; exact SeqAt.RcAt.none_bool b
    | int b => obtain ⟨t, rfl⟩ := rx; exact SeqAt.RcAt.none_int b t
    | str b => obtain ⟨t, rfl⟩ := rx; exact SeqAt.RcAt.none_str b t
    | lst q1 q2 => obtain ⟨_, _, _, e1, rfl, _, _, _, p⟩ := rep_list I hs q0 rx; exact SeqAt.RcAt.none_list p hA
    | tup q1 q2 => obtain ⟨_, _, _, e1, rfl, _, _, _, p⟩ := rep_tuple I hs q0 rx; exact SeqAt.RcAt.none_tuple p hA
    | dct _ _ => simp [ndc] at he
  | bl a =>
    cases ru
    cases q with
    | non => cases rx; exact SeqAt.RcAt.bool_none a
    | bl b => cases rx; exact SeqAt.RcAt.bool_bool a b
    | int b => obtain ⟨t, rfl⟩ := rx; exact SeqAt.RcAt.bool_int a b t
    | str b => obtain ⟨t, rfl⟩ := rx; exact SeqAt.RcAt.bool_str a b t
    | lst q1 q2 => obtain ⟨_, _, _, e1, rfl, _, _, _, p⟩ := rep_list I hs q0 rx; exact SeqAt.RcAt.bool_list a p hA
    | tup q1 q2 => obtain ⟨_, _, _, e1, rfl, _, _, _, p⟩ := rep_tuple I hs q0 rx; exact SeqAt.RcAt.bool_tuple a p hA
    | dct _ _ => simp [ndc] at he
  | int a =>
    obtain ⟨t', rfl⟩ := ru
    cases q with
    | non => cases rx; exact SeqAt.RcAt.int_none a t'
    | bl b => cases rx; exact SeqAt.RcAt.int_bool a t' b
    | int b => obtain ⟨t, rfl⟩ := rx; exact SeqAt.RcAt.int_int a t' b t
    | str b => obtain ⟨t, rfl⟩ := rx; exact SeqAt.RcAt.int_str a t' b t
    | lst q1 q2 => obtain ⟨_, _, _, e1, rfl, _, _, _, p⟩ := rep_list I hs q0 rx; exact SeqAt.RcAt.int_list a t' p hA
    | tup q1 q2 => obtain ⟨_, _, _, e1, rfl, _, _, _, p⟩ := rep_tuple I hs q0 rx; exact SeqAt.RcAt.int_tuple a t' p hA
    | dct _ _ => simp [ndc] at he
  | str a =>
    obtain ⟨t', rfl⟩ := ru
    cases q with
    | non => cases rx; exact SeqAt.RcAt.str_none a t'
    | bl b => cases rx; exact SeqAt.RcAt.str_bool a t' b
    | int b => obtain ⟨t, rfl⟩ := rx; exact SeqAt.RcAt.str_int a t' b t
    | str b => obtain ⟨t, rfl⟩ := rx; exact SeqAt.RcAt.str_str a t' b t
    | lst q1 q2 => obtain ⟨_, _, _, e1, rfl, _, _, _, p⟩ := rep_list I hs q0 rx; exact SeqAt.RcAt.str_list a t' p hA
    | tup q1 q2 => obtain ⟨_, _, _, e1, rfl, _, _, _, p⟩ := rep_tuple I hs q0 rx; exact SeqAt.RcAt.str_tuple a t' p hA
    | dct _ _ => simp [ndc] at he
  | @lst a0 vs0 ds q1 q2 =>
    obtain ⟨a, vs, us, e1, rfl, hS, rr, rv, p⟩ := rep_list I hs r0 ru
    cases q with
    | non => cases rx; exact SeqAt.RcAt.list_none p hA
    | bl b => cases rx; exact SeqAt.RcAt.list_bool b p hA
    | int b => obtain ⟨t, rfl⟩ := rx; exact SeqAt.RcAt.list_int b t p hA
    | str b => obtain ⟨t, rfl⟩ := rx; exact SeqAt.RcAt.list_str b t p hA
    | @lst a2 vs2 ds2 q1 q2 =>
      obtain ⟨b, ws, xs, e2, rfl, hS2, rr2, rv2, p2⟩ := rep_list I hs q0 rx
      have n1 : us.toArray.size = ds.length := by rw [List.size_toArray, ← rr.length, rv.length]
      have n2 : xs.toArray.size = ds2.length := by rw [List.size_toArray, ← rr2.length, rv2.length]
      have he2 : ∀ j (h1 : j < us.toArray.size) (h2 : j < xs.toArray.size), SeqAt.EqAt A.in1 s us.toArray[j] xs.toArray[j] (alike ds ds2 j) := fun j h1 h2 =>
        eqsAt_rep I hs ds ds2 vs ws us xs A.in1 rr rr2 rv rv2 (by simpa [ndc] using hd) (by simpa [ndc] using he) (by rw [in1_units]; simp only [PyData.depth] at hu; omega) j (by simpa using h1) (by simpa using h2)
      show SeqAt.RcAt A s (.ref a) (.ref b) (PyData.eqvAll ds ds2)
      by_cases hz : ds.length = ds2.length
      · rw [← alike_all ds ds2 hz, ← n1]
        exact SeqAt.RcAt.lists p p2 (by rw [n1, n2, hz]) hA he2
      · rw [eqvAll_len ds ds2 hz]
        exact SeqAt.RcAt.lists_lengths p p2 (by rw [n1, n2]; simpa using hz) hA
    | tup q1 q2 => obtain ⟨_, _, _, e2, rfl, _, _, _, p2⟩ := rep_tuple I hs q0 rx; exact SeqAt.RcAt.list_tuple p p2 hA
    | dct _ _ => simp [ndc] at he
  | @tup a0 vs0 ds q1 q2 =>
    obtain ⟨a, vs, us, e1, rfl, hS, rr, rv, p⟩ := rep_tuple I hs r0 ru
    cases q with
    | non => cases rx; exact SeqAt.RcAt.tuple_none p hA
    | bl b => cases rx; exact SeqAt.RcAt.tuple_bool b p hA
    | int b => obtain ⟨t, rfl⟩ := rx; exact SeqAt.RcAt.tuple_int b t p hA
    | str b => obtain ⟨t, rfl⟩ := rx; exact SeqAt.RcAt.tuple_str b t p hA
    | lst q1 q2 => obtain ⟨_, _, _, e2, rfl, _, _, _, p2⟩ := rep_list I hs q0 rx; exact SeqAt.RcAt.tuple_list p p2 hA
    | @tup a2 vs2 ds2 q1 q2 =>
      obtain ⟨b, ws, xs, e2, rfl, hS2, rr2, rv2, p2⟩ := rep_tuple I hs q0 rx
      have n1 : us.toArray.size = ds.length := by rw [List.size_toArray, ← rr.length, rv.length]
      have n2 : xs.toArray.size = ds2.length := by rw [List.size_toArray, ← rr2.length, rv2.length]
      have he2 : ∀ j (h1 : j < us.toArray.size) (h2 : j < xs.toArray.size), SeqAt.EqAt A.in1 s us.toArray[j] xs.toArray[j] (alike ds ds2 j) := fun j h1 h2 =>
        eqsAt_rep I hs ds ds2 vs ws us xs A.in1 rr rr2 rv rv2 (by simpa [ndc] using hd) (by simpa [ndc] using he) (by rw [in1_units]; simp only [PyData.depth] at hu; omega) j (by simpa using h1) (by simpa using h2)
      show SeqAt.RcAt A s (.ref a) (.ref b) (PyData.eqvAll ds ds2)
      rw [← alike_tup ds ds2, ← n1, ← n2]
      exact SeqAt.RcAt.tuples p p2 hA he2
    | dct _ _ => simp [ndc] at he
  | dct _ _ => simp [ndc] at hd
theorem rc_ne (I : Inv X pins σ H s) (hs : Same G H) {d e : Dat} {v w : V} {u x : Value} (A : Around) (r : Rep X.K G v d) (q : Rep X.K G w e) (ru : RelV v u) (rx : RelV w x) (hd : ndc d = true) (he : ndc e = true)
    (hu : A.units + PyData.depth d < cLine) : SeqAt.RcNeAt A s u x (!PyData.eqv d e) := by
  have hA : A.units < cLine := Nat.lt_of_le_of_lt (Nat.le_add_right _ _) hu
  have r0 := r
  have q0 := q
  cases r with
  | non =>
    cases ru
    cases q with
    | non => cases rx; exact SeqAt.RcNeAt.none_none
    | bl b => cases rx; exact SeqAt.RcNeAt.none_bool b
    | int b => obtain ⟨t, rfl⟩ := rx; exact SeqAt.RcNeAt.none_int b t
    | str b => obtain ⟨t, rfl⟩ := rx; exact SeqAt.RcNeAt.none_str b t
    | lst q1 q2 => obtain ⟨_, _, _, e1, rfl, _, _, _, p⟩ := rep_list I hs q0 rx; exact SeqAt.RcNeAt.none_list p hA
    | tup q1 q2 => obtain ⟨_, _, _, e1, rfl, _, _, _, p⟩ := rep_tuple I hs q0 rx; exact SeqAt.RcNeAt.none_tuple p hA
    | dct _ _ => simp [ndc] at he
  | bl a =>
    cases ru
    cases q with
    | non => cases rx; exact SeqAt.RcNeAt.bool_none a
    | bl b => cases rx; exact SeqAt.RcNeAt.bool_bool a b
    | int b => obtain ⟨t, rfl⟩ := rx; exact SeqAt.RcNeAt.bool_int a b t
    | str b => obtain ⟨t, rfl⟩ := rx; exact SeqAt.RcNeAt.bool_str a b t
    | lst q1 q2 => obtain ⟨_, _, _, e1, rfl, _, _, _, p⟩ := rep_list I hs q0 rx; exact SeqAt.RcNeAt.bool_list a p hA
    | tup q1 q2 => obtain ⟨_, _, _, e1, rfl, _, _, _, p⟩ := rep_tuple I hs q0 rx; exact SeqAt.RcNeAt.bool_tuple a p hA
    | dct _ _ => simp [ndc] at he
  | int a =>
    obtain ⟨t', rfl⟩ := ru
    cases q with
    | non => cases rx; exact SeqAt.RcNeAt.int_none a t'
    | bl b => cases rx; exact SeqAt.RcNeAt.int_bool a t' b
    | int b => obtain ⟨t, rfl⟩ := rx; exact SeqAt.RcNeAt.int_int a t' b t
    | str b => obtain ⟨t, rfl⟩ := rx; exact SeqAt.RcNeAt.int_str a t' b t
    | lst q1 q2 => obtain ⟨_, _, _, e1, rfl, _, _, _, p⟩ := rep_list I hs q0 rx; exact SeqAt.RcNeAt.int_list a t' p hA
    | tup q1 q2 => obtain ⟨_, _, _, e1, rfl, _, _, _, p⟩ := rep_tuple I hs q0 rx; exact SeqAt.RcNeAt.int_tuple a t' p hA
    | dct _ _ => simp [ndc] at he
  | str a =>
    obtain ⟨t', rfl⟩ := ru
    cases q with
    | non => cases rx; exact SeqAt.RcNeAt.str_none a t'
    | bl b => cases rx; exact SeqAt.RcNeAt.str_bool a t' b
    | int b => obtain ⟨t, rfl⟩ := rx; exact SeqAt.RcNeAt.str_int a t' b t
    | str b => obtain ⟨t, rfl⟩ := rx; exact SeqAt.RcNeAt.str_str a t' b t
    | lst q1 q2 => obtain ⟨_, _, _, e1, rfl, _, _, _, p⟩ := rep_list I hs q0 rx; exact SeqAt.RcNeAt.str_list a t' p hA
    | tup q1 q2 => obtain ⟨_, _, _, e1, rfl, _, _, _, p⟩ := rep_tuple I hs q0 rx; exact SeqAt.RcNeAt.str_tuple a t' p hA
    | dct _ _ => simp [ndc] at he
  | @lst a0 vs0 ds q1 q2 =>
    obtain ⟨a, vs, us, e1, rfl, hS, rr, rv, p⟩ := rep_list I hs r0 ru
    cases q with
    | non => cases rx; exact SeqAt.RcNeAt.list_none p hA
    | bl b => cases rx; exact SeqAt.RcNeAt.list_bool b p hA
    | int b => obtain ⟨t, rfl⟩ := rx; exact SeqAt.RcNeAt.list_int b t p hA
    | str b => obtain ⟨t, rfl⟩ := rx; exact SeqAt.RcNeAt.list_str b t p hA
    | @lst a2 vs2 ds2 q1 q2 =>
      obtain ⟨b, ws, xs, e2, rfl, hS2, rr2, rv2, p2⟩ := rep_list I hs q0 rx
      have n1 : us.toArray.size = ds.length := by rw [List.size_toArray, ← rr.length, rv.length]
      have n2 : xs.toArray.size = ds2.length := by rw [List.size_toArray, ← rr2.length, rv2.length]
      have he2 : ∀ j (h1 : j < us.toArray.size) (h2 : j < xs.toArray.size), SeqAt.EqAt A.in1 s us.toArray[j] xs.toArray[j] (alike ds ds2 j) := fun j h1 h2 =>
        eqsAt_rep I hs ds ds2 vs ws us xs A.in1 rr rr2 rv rv2 (by simpa [ndc] using hd) (by simpa [ndc] using he) (by rw [in1_units]; simp only [PyData.depth] at hu; omega) j (by simpa using h1) (by simpa using h2)
      show SeqAt.RcNeAt A s (.ref a) (.ref b) (!PyData.eqvAll ds ds2)
      by_cases hz : ds.length = ds2.length
      · rw [← alike_all ds ds2 hz, ← n1]
        exact SeqAt.RcNeAt.lists p p2 (by rw [n1, n2, hz]) hA he2
      · rw [eqvAll_len ds ds2 hz]
        exact SeqAt.RcNeAt.lists_lengths p p2 (by rw [n1, n2]; simpa using hz) hA
    | tup q1 q2 => obtain ⟨_, _, _, e2, rfl, _, _, _, p2⟩ := rep_tuple I hs q0 rx; exact SeqAt.RcNeAt.list_tuple p p2 hA
    | dct _ _ => simp [ndc] at he
  | @tup a0 vs0 ds q1 q2 =>
    obtain ⟨a, vs, us, e1, rfl, hS, rr, rv, p⟩ := rep_tuple I hs r0 ru
    cases q with
    | non => cases rx; exact SeqAt.RcNeAt.tuple_none p hA
    | bl b => cases rx; exact SeqAt.RcNeAt.tuple_bool b p hA
    | int b => obtain ⟨t, rfl⟩ := rx; exact SeqAt.RcNeAt.tuple_int b t p hA
    | str b => obtain ⟨t, rfl⟩ := rx; exact SeqAt.RcNeAt.tuple_str b t p hA
    | lst q1 q2 => obtain ⟨_, _, _, e2, rfl, _, _, _, p2⟩ := rep_list I hs q0 rx; exact SeqAt.RcNeAt.tuple_list p p2 hA
    | @tup a2 vs2 ds2 q1 q2 =>
      obtain ⟨b, ws, xs, e2, rfl, hS2, rr2, rv2, p2⟩ := rep_tuple I hs q0 rx
      have n1 : us.toArray.size = ds.length := by rw [List.size_toArray, ← rr.length, rv.length]
      have n2 : xs.toArray.size = ds2.length := by rw [List.size_toArray, ← rr2.length, rv2.length]
      have he2 : ∀ j (h1 : j < us.toArray.size) (h2 : j < xs.toArray.size), SeqAt.EqAt A.in1 s us.toArray[j] xs.toArray[j] (alike ds ds2 j) := fun j h1 h2 =>
        eqsAt_rep I hs ds ds2 vs ws us xs A.in1 rr rr2 rv rv2 (by simpa [ndc] using hd) (by simpa [ndc] using he) (by rw [in1_units]; simp only [PyData.depth] at hu; omega) j (by simpa using h1) (by simpa using h2)
      show SeqAt.RcNeAt A s (.ref a) (.ref b) (!PyData.eqvAll ds ds2)
      rw [← alike_tup ds ds2, ← n1, ← n2]
      exact SeqAt.RcNeAt.tuples p p2 hA he2
    | dct _ _ => simp [ndc] at he
  | dct _ _ => simp [ndc] at hd
end

/-- a comparison by data -/
def R2C (K : PySem.W.Frag) (f : Dat → Dat → Res Bool) : R2 := fun x y H Q => ∃ G d e r, Same G H ∧ RW K H G x d ∧ RW K H G y e ∧ f d e = .ok r ∧ Q (.bl r) H
def opC (o : Cop) : CmpOp := match o with
  | .eq => .Eq
  | .ne => .NotEq
  | .lt => .Lt
  | .le => .LtE
  | .gt => .Gt
  | .ge => .GtE
  | .isin => .In
  | .nin => .NotIn
  | .isN => .Is
  | .ntN => .IsNot
theorem shOk_ndc {d : Dat} (h : shOk d = true) : ndc d = true := (Bool.and_eq_true_iff.mp h).1
theorem shOk_depth {d : Dat} (h : shOk d = true) : PyData.depth d ≤ 100 := of_decide_eq_true (Bool.and_eq_true_iff.mp h).2
theorem in_any {X : Cx} {G : Hp} {x : Dat} : ∀ {ds : List Dat} {vs : List V} {us : List Value} {e : Value → Bool}, Reps X.K G vs ds → Vals vs us → (∀ (i : Nat) (d : Dat) (u : Value), ds[i]? = some d → us[i]? = some u → e u = PyData.eqv d x) → us.any e = inD x ds
  | [], _, _, _, r, q, _ => by cases r; cases q; rfl
  | d :: ds, _, _, e, r, q, h => by
    cases r with
    | cons r t =>
      cases q with
      | cons q t' =>
        show (_ || _) = (_ || _)
        rw [h 0 d _ rfl rfl, in_any t t' fun i d u h1 h2 => h (i + 1) d u h1 h2]
section
variable {X : Cx}
/-- what a value is, read off the heap: for the items of a list that is searched -/
theorem in_items {pins : List (Addr × Obj)} {σ : L2.St} {H G : Hp} {s : Shared} (I : Inv X pins σ H s) (hs : Same G H) {x : Dat} {w : V} {u : Value} {A : Around} (q : Rep X.K G w x) (ru : RelV w u) (hx : ndc x = true) :
    ∀ {ds : List Dat} {vs : List V} {us : List Value}, Reps X.K G vs ds → Vals vs us → ndcs ds = true → A.units + PyData.depthAll ds < cLine →
      ∃ e : Value → Bool, (∀ y, y ∈ us → SeqAt.EqAt A s y u (e y)) ∧ us.any e = inD x ds := by
  intro ds vs us r rv hd hu
  have key : ∀ (ds : List Dat) (vs : List V) (us : List Value), Reps X.K G vs ds → Vals vs us → ndcs ds = true → A.units + PyData.depthAll ds < cLine → ∀ y ∈ us, ∃ d ∈ ds, SeqAt.EqAt A s y u (PyData.eqv d x) ∧ ∃ v, Rep X.K G v d ∧ RelV v y ∧ ndc d = true := by
    intro ds
    induction ds with
    | nil => intro vs us r rv _ _ y hy; cases r; cases rv; cases hy
    | cons d ds ih =>
      intro vs us r rv hd hu y hy
      cases r with
      | cons r t =>
        cases rv with
        | cons r1 t1 =>
          simp only [ndcs, Bool.and_eq_true] at hd
          simp only [PyData.depthAll] at hu
          rcases List.mem_cons.mp hy with rfl | hy
          · exact ⟨d, List.mem_cons_self, eqAt_rep I hs d x _ _ _ _ A r q r1 ru hd.1 hx (by omega), _, r, r1, hd.1⟩
          · obtain ⟨d', h1, h2⟩ := ih _ _ t t1 hd.2 (by omega) y hy
            exact ⟨d', List.mem_cons_of_mem _ h1, h2⟩
  classical
  refine ⟨fun y => if h : y ∈ us then PyData.eqv (Classical.choose (key ds vs us r rv hd hu y h)) x else false, fun y hy => ?_, ?_⟩
  · simp only [hy, dite_true]
    exact (Classical.choose_spec (key ds vs us r rv hd hu y hy)).2.1
  · refine in_any r rv fun i d y h1 h2 => ?_
    have hy : y ∈ us := List.mem_of_getElem? h2
    simp only [hy, dite_true]
    obtain ⟨c1, _, v, c2, c3, c4⟩ := Classical.choose_spec (key ds vs us r rv hd hu y hy)
    obtain ⟨v', g1, g2⟩ := r.get h1
    obtain ⟨u', g3, g4⟩ := rv.get g1
    rw [h2] at g3; cases g3
    have ev := c3.inj g4
    subst ev
    have hd' : ndc d = true := by
      have z : ∀ (ds : List Dat) (i : Nat), ndcs ds = true → ds[i]? = some d → ndc d = true := by
        intro ds
        induction ds with
        | nil => intro i _ e; simp at e
        | cons a ds ih =>
          intro i hn e
          simp only [ndcs, Bool.and_eq_true] at hn
          cases i with
          | zero => simp at e; subst e; exact hn.1
          | succ i => exact ih i hn.2 (by simpa using e)
      exact z ds i hd h1
    rw [Rep.inj I hs _ _ v c2 g2 c4 hd']
theorem op_cmp {k : Nat} (hr : Room k X.A) (o : Cop) : OpR X (compareOp (opC o)) (R2C X.K (cmpD o)) := by
  intro pins s σ H x y v u Q I rx ry h
  obtain ⟨G, d, e, r, sm, rd, re, hf, q⟩ := h
  have hu100 : ∀ {d : Dat}, shOk d = true → X.A.units + PyData.depth d < cLine := fun h => by
    have := shOk_depth h
    have := hr.un
    omega
  have here : ∀ {b : Bool}, r = b → EP X pins σ Q (.bool b) s := fun e => fin_bl I q e
  cases o with
  | eq =>
    simp only [cmpD] at hf
    split at hf
    · rename_i hh
      cases hf
      have h2 := Bool.and_eq_true_iff.mp hh
      exact rc_eq I (Same.refl H) X.A (rd.here sm) (re.here sm) rx ry (shOk_ndc h2.1) (shOk_ndc h2.2) (hu100 h2.1) X.prog X.w _ _ (here rfl)
    · cases hf
  | ne =>
    simp only [cmpD] at hf
    split at hf
    · rename_i hh
      cases hf
      have h2 := Bool.and_eq_true_iff.mp hh
      exact rc_ne I (Same.refl H) X.A (rd.here sm) (re.here sm) rx ry (shOk_ndc h2.1) (shOk_ndc h2.2) (hu100 h2.1) X.prog X.w _ _ (here rfl)
    · cases hf
  | lt =>
    cases d <;> cases e <;> simp only [cmpD] at hf <;> try (cases hf; done)
    · cases hf
      have := rd.int; subst this
      have := re.int; subst this
      exact op_lt pins s σ H _ _ v u Q I rx ry ⟨_, _, rfl, rfl, q⟩
    · cases hf
      have := rd.str; subst this
      have := re.str; subst this
      exact op_lt_str pins s σ H _ _ v u Q I rx ry ⟨_, _, rfl, rfl, q⟩
  | le =>
    cases d <;> cases e <;> simp only [cmpD] at hf <;> try (cases hf; done)
    · cases hf
      have := rd.int; subst this
      have := re.int; subst this
      exact op_le pins s σ H _ _ v u Q I rx ry ⟨_, _, rfl, rfl, q⟩
    · cases hf
      have := rd.str; subst this
      have := re.str; subst this
      exact op_le_str pins s σ H _ _ v u Q I rx ry ⟨_, _, rfl, rfl, q⟩
  | gt =>
    cases d <;> cases e <;> simp only [cmpD] at hf <;> try (cases hf; done)
    · cases hf
      have := rd.int; subst this
      have := re.int; subst this
      exact op_gt pins s σ H _ _ v u Q I rx ry ⟨_, _, rfl, rfl, q⟩
    · cases hf
      have := rd.str; subst this
      have := re.str; subst this
      exact op_gt_str pins s σ H _ _ v u Q I rx ry ⟨_, _, rfl, rfl, q⟩
  | ge =>
    cases d <;> cases e <;> simp only [cmpD] at hf <;> try (cases hf; done)
    · cases hf
      have := rd.int; subst this
      have := re.int; subst this
      exact op_ge pins s σ H _ _ v u Q I rx ry ⟨_, _, rfl, rfl, q⟩
    · cases hf
      have := rd.str; subst this
      have := re.str; subst this
      exact op_ge_str pins s σ H _ _ v u Q I rx ry ⟨_, _, rfl, rfl, q⟩
  | isin =>
    obtain ⟨r0, hb, hrr⟩ : ∃ r0, inB d e = .ok r0 ∧ r = r0 := by
      simp only [cmpD] at hf
      cases hb : inB d e with
      | ok r0 => rw [hb] at hf; first | (cases hf; exact ⟨_, rfl, rfl⟩)
      | exc c x => rw [hb] at hf; cases hf
      | bad => rw [hb] at hf; cases hf
    clear hf
    cases e with
    | none => simp only [inB] at hb; cases hb
    | bool _ => simp only [inB] at hb; cases hb
    | int _ => simp only [inB] at hb; cases hb
    | dict _ => simp only [inB] at hb; cases hb
    | str b =>
      cases d <;> simp only [inB] at hb <;> try (cases hb; done)
      cases hb
      have := rd.str; subst this
      have := re.str; subst this
      rename_i a
      unfold strIn at hrr
      split at hrr
      · rename_i c hc
        refine op_in_sign pins s σ H _ _ v u Q I rx ry ⟨c, b, ?_, rfl, by rw [← hrr]; exact q⟩
        have z : a = ⟨#[c]⟩ := PySem.Str.ext' (by rw [← Array.toList_inj, hc])
        rw [z]
      · exact op_in_str pins s σ H _ _ v u Q I rx ry ⟨_, _, rfl, rfl, by rw [← hrr]; exact q⟩
    | list ds =>
      simp only [inB] at hb
      split at hb <;> cases hb
      rename_i hh
      have h2 := Bool.and_eq_true_iff.mp hh
      obtain ⟨a, vs, us, rfl, rfl, hS, rr, rv, p⟩ := rep_list I (Same.refl H) (re.here sm) ry
      have hz : X.A.in1.units + PyData.depthAll ds < cLine := by
        have := hr.un
        rw [in1_units]
        have h3 := shOk_depth h2.2
        simp only [PyData.depth] at h3
        omega
      obtain ⟨f, f1, f2⟩ := in_items (A := X.A.in1) I (Same.refl H) (rd.here sm) rx (shOk_ndc h2.1) rr rv (by have z := shOk_ndc h2.2; simpa [ndc] using z) hz
      refine SeqAt.in_listAt f p (fun y hy => f1 y (by simpa using hy)) (here ?_)
      rw [hrr, ← f2]; simp
    | tuple ds =>
      simp only [inB] at hb
      split at hb <;> cases hb
      rename_i hh
      have h2 := Bool.and_eq_true_iff.mp hh
      obtain ⟨a, vs, us, rfl, rfl, hS, rr, rv, p⟩ := rep_tuple I (Same.refl H) (re.here sm) ry
      have hz : X.A.in1.units + PyData.depthAll ds < cLine := by
        have := hr.un
        rw [in1_units]
        have h3 := shOk_depth h2.2
        simp only [PyData.depth] at h3
        omega
      obtain ⟨f, f1, f2⟩ := in_items (A := X.A.in1) I (Same.refl H) (rd.here sm) rx (shOk_ndc h2.1) rr rv (by have z := shOk_ndc h2.2; simpa [ndc] using z) hz
      refine SeqAt.in_tupleAt f p (fun y hy => f1 y (by simpa using hy)) (here ?_)
      rw [hrr, ← f2]; simp
  | nin =>
    obtain ⟨r0, hb, hrr⟩ : ∃ r0, inB d e = .ok r0 ∧ r = !r0 := by
      simp only [cmpD] at hf
      cases hb : inB d e with
      | ok r0 => rw [hb] at hf; first | (cases hf; exact ⟨_, rfl, rfl⟩)
      | exc c x => rw [hb] at hf; cases hf
      | bad => rw [hb] at hf; cases hf
    clear hf
    cases e with
    | none => simp only [inB] at hb; cases hb
    | bool _ => simp only [inB] at hb; cases hb
    | int _ => simp only [inB] at hb; cases hb
    | dict _ => simp only [inB] at hb; cases hb
    | str b =>
      cases d <;> simp only [inB] at hb <;> try (cases hb; done)
      cases hb
      have := rd.str; subst this
      have := re.str; subst this
      rename_i a
      unfold strIn at hrr
      split at hrr
      · rename_i c hc
        refine op_notIn_sign pins s σ H _ _ v u Q I rx ry ⟨c, b, ?_, rfl, by rw [← hrr]; exact q⟩
        have z : a = ⟨#[c]⟩ := PySem.Str.ext' (by rw [← Array.toList_inj, hc])
        rw [z]
      · exact op_notIn_str pins s σ H _ _ v u Q I rx ry ⟨_, _, rfl, rfl, by rw [← hrr]; exact q⟩
    | list ds =>
      simp only [inB] at hb
      split at hb <;> cases hb
      rename_i hh
      have h2 := Bool.and_eq_true_iff.mp hh
      obtain ⟨a, vs, us, rfl, rfl, hS, rr, rv, p⟩ := rep_list I (Same.refl H) (re.here sm) ry
      have hz : X.A.in1.units + PyData.depthAll ds < cLine := by
        have := hr.un
        rw [in1_units]
        have h3 := shOk_depth h2.2
        simp only [PyData.depth] at h3
        omega
      obtain ⟨f, f1, f2⟩ := in_items (A := X.A.in1) I (Same.refl H) (rd.here sm) rx (shOk_ndc h2.1) rr rv (by have z := shOk_ndc h2.2; simpa [ndc] using z) hz
      refine SeqAt.notIn_listAt f p (fun y hy => f1 y (by simpa using hy)) (here ?_)
      rw [hrr, ← f2]; simp
    | tuple ds =>
      simp only [inB] at hb
      split at hb <;> cases hb
      rename_i hh
      have h2 := Bool.and_eq_true_iff.mp hh
      obtain ⟨a, vs, us, rfl, rfl, hS, rr, rv, p⟩ := rep_tuple I (Same.refl H) (re.here sm) ry
      have hz : X.A.in1.units + PyData.depthAll ds < cLine := by
        have := hr.un
        rw [in1_units]
        have h3 := shOk_depth h2.2
        simp only [PyData.depth] at h3
        omega
      obtain ⟨f, f1, f2⟩ := in_items (A := X.A.in1) I (Same.refl H) (rd.here sm) rx (shOk_ndc h2.1) rr rv (by have z := shOk_ndc h2.2; simpa [ndc] using z) hz
      refine SeqAt.notIn_tupleAt f p (fun y hy => f1 y (by simpa using hy)) (here ?_)
      rw [hrr, ← f2]; simp
  | isN =>
    have hv : ∀ {d : Dat}, RW X.K H G x d → d ≠ .none → decide (x = V.non) = false := fun {d} r n => by
      have r' := r.here sm
      cases r' <;> first | exact absurd rfl n | rfl | (simp)
    cases e <;> (try (cases d <;> simp only [cmpD] at hf <;> cases hf; done))
    have := re.non; subst this
    by_cases hd : d = .none
    · subst hd
      have := rd.non; subst this
      simp only [cmpD] at hf
      cases hf
      exact op_isN pins s σ H _ _ v u Q I rx ry ⟨rfl, q⟩
    · have z := hv rd hd
      have e : r = false := by cases d <;> simp only [cmpD] at hf <;> first | exact absurd rfl hd | (cases hf; rfl)
      subst e
      exact op_isN pins s σ H _ _ v u Q I rx ry ⟨rfl, by rw [z]; exact q⟩
  | ntN =>
    have hv : ∀ {d : Dat}, RW X.K H G x d → d ≠ .none → decide (x = V.non) = false := fun {d} r n => by
      have r' := r.here sm
      cases r' <;> first | exact absurd rfl n | rfl | (simp)
    cases e <;> (try (cases d <;> simp only [cmpD] at hf <;> cases hf; done))
    have := re.non; subst this
    by_cases hd : d = .none
    · subst hd
      have := rd.non; subst this
      simp only [cmpD] at hf
      cases hf
      exact op_notN pins s σ H _ _ v u Q I rx ry ⟨rfl, q⟩
    · have z := hv rd hd
      have e : r = true := by cases d <;> simp only [cmpD] at hf <;> first | exact absurd rfl hd | (cases hf; rfl)
      subst e
      exact op_notN pins s σ H _ _ v u Q I rx ry ⟨rfl, by rw [z]; exact q⟩
end
end NW
end

section
set_option maxHeartbeats 4000000
/-! sorted of names: tuples of texts, the empty one among them. -/
namespace NW
open PySem PySem.Spec PyProof.Rows L2
abbrev encNm (a : List Str) : Dat := .tuple (a.map .str)
theorem alike_strs : ∀ a b : List Str, PySem.W.alikeAll (a.map PyData.str) (b.map PyData.str) = true
  | [], b => by cases b <;> simp [PySem.W.alikeAll]
  | a :: r, [] => by simp [PySem.W.alikeAll]
  | a :: r, b :: q => by
    simp only [List.map_cons, PySem.W.alikeAll, alike_strs r q, Bool.and_true]
    rfl
theorem alike_nm (a b : List Str) : PySem.W.alike (encNm a) (encNm b) = true := alike_strs a b
theorem lt_strs : ∀ a b : List Str, PyProof.Rows.lexLt PyProof.Rows.itemOrd (PySem.W.keyToksAll (a.map PyData.str)) (PySem.W.keyToksAll (b.map PyData.str)) = ltN a b
  | [], [] => PyProof.Rows.lex_irrefl _
  | [], b :: q => by
    rw [List.map_cons, PySem.W.toks_all_cons]
    exact PyProof.Rows.lex_diff (O := PyProof.Rows.itemOrd) (by simp)
  | a :: r, [] => by
    rw [List.map_cons, PySem.W.toks_all_cons]
    exact PyProof.Rows.lex_diff (O := PyProof.Rows.itemOrd) (by simp)
  | a :: r, b :: q => by
    rw [List.map_cons, List.map_cons, PySem.W.dataLt_cons rfl, lt_strs r q, PySem.W.dataLt_str]
    simp only [ltN]
    have e : PyData.eqv (.str a) (.str b) = decide (a = b) := by simp [PyData.eqv]; rfl
    rw [e]
    by_cases h : a = b
    · rw [if_pos h, if_pos (decide_eq_true h)]
    · rw [if_neg h, if_neg (by simpa using h)]
theorem lt_nm (a b : List Str) : PySem.W.dataLt (encNm a) (encNm b) = ltN a b := by
  rw [PySem.W.dataLt_tuple]
  exact lt_strs a b
theorem le_nm : PySem.W.dataLe false encNm = leN := by
  funext a b
  rw [PySem.W.dataLe_eq]
  show (!PySem.W.dataLt (encNm b) (encNm a)) = leN a b
  rw [lt_nm]
  rfl
theorem depth_nm (a : List Str) : (encNm a).depth ≤ 2 := by
  have : ∀ a : List Str, PyData.depthAll (a.map PyData.str) ≤ 1 := by
    intro a
    induction a with
    | nil => simp [PyData.depthAll]
    | cons x r ih =>
      simp only [List.map_cons, PyData.depthAll, PyData.depth]
      omega
  have := this a
  simp only [encNm, PyData.depth]
  omega
section
variable {prog : Program} {w : World} {A : Around} {E : Value → Shared → Prop} {s : Shared}
abbrev RdN (s : Shared) : Value → List Str → Prop := fun v a => ∃ as, Reads s.heap v (encNm a) as
theorem nm_firsts {M : Model} : ∀ {vs : List Value} {N : List (List Str)}, PySem.W.EachIs (RdN s) vs N →
    ∃ fs : List (Option Value), (∀ {Q : List (Option Value) → Shared → Prop}, Q fs s → wpAny M A (vs.mapM firstOfTuple') Q E s) ∧ fs.map Option.isSome = N.map fun a => !a.isEmpty
  | _, _, .nil => ⟨[], fun h => by rw [List.mapM_nil]; exact wpAny_pure h, rfl⟩
  | v :: vs, a :: N, .cons h t => by
    obtain ⟨fs, h1, h2⟩ := nm_firsts (M := M) t
    obtain ⟨as, h⟩ := h
    cases h with
    | @tuple p o xs n _ _ ho hc hd hr =>
      refine ⟨xs[0]? :: fs, fun {Q} hq => ?_, ?_⟩
      · rw [List.mapM_cons]
        refine wpAny_bind ?_
        rw [PySem.W.kas_first_eq]
        have lk : PySem.W.Looks M s.heap (typeOf (.ref p)) o.cls := (PySem.W.Looks.ld ho).andThen .now
        refine wpAny_bind (lk.here ?_)
        rw [hc, if_neg (by decide)]
        refine wpAny_bind (listItems_at ho hd (wpAny_pure ?_))
        exact wpAny_bind (h1 (Q := fun bs s' => wpAny M A (pure (xs[0]? :: bs)) Q E s') (wpAny_pure hq))
      · rw [List.map_cons, List.map_cons, h2]
        congr 1
        have hl : xs.size = a.length := by
          have := PySem.SeqAt.ReadsAll.length _ _ _ hr
          simpa using this
        cases a with
        | nil =>
          have : xs[0]? = none := by rw [Array.getElem?_eq_none]; rw [hl]; exact Nat.le_refl _
          rw [this]
          rfl
        | cons x r =>
          have h0 : 0 < xs.size := by rw [hl]; exact Nat.succ_pos _
          rw [Array.getElem?_eq_getElem h0]
          rfl
theorem nm_kind {vs : List Value} {N : List (List Str)} (e : PySem.W.EachIs (RdN s) vs N) (hn : (N.all fun a => !a.isEmpty) = false) (h2 : 2 ≤ vs.length) {M : Model} {Q : SortKind → Shared → Prop}
    (hq : Q (if (!(N.headD []).isEmpty) = true then general' else oneType') s) : wpAny M A (keyKind' vs.toArray) Q E s := by
  obtain ⟨fs, f1, f2⟩ := nm_firsts (M := M) (A := A) (E := E) e
  rw [keyKind'_eq, List.mapM_toArray, map_eq_pure_bind]
  refine wpAny_bind (wpAny_bind (f1 (wpAny_pure ?_)))
  have hall : ¬ (fs.toArray.all fun x => x.isSome) = true := by
    rw [List.all_toArray]
    have : fs.all (fun x => x.isSome) = (fs.map Option.isSome).all id := by rw [List.all_map]; rfl
    rw [this, f2, List.all_map]
    have : (N.all (id ∘ fun a => !a.isEmpty)) = false := hn
    rw [this]
    decide
  rw [if_neg hall]
  have hlen := e.length
  obtain ⟨a, N', rfl⟩ : ∃ a N', N = a :: N' := by
    cases N with
    | nil => rw [hlen] at h2; simp at h2
    | cons a N' => exact ⟨a, N', rfl⟩
  obtain ⟨f, fs', rfl⟩ : ∃ f fs', fs = f :: fs' := by
    cases fs with
    | nil => simp at f2
    | cons f fs' => exact ⟨f, fs', rfl⟩
  have hf : f.isSome = !a.isEmpty := by
    rw [List.map_cons, List.map_cons] at f2
    exact (List.cons.inj f2).1
  have h0 : (((f :: fs').toArray[0]?).bind id).isSome = !a.isEmpty := by
    rw [← hf]
    simp
  rw [h0]
  have hq' : Q (if (!a.isEmpty) = true then general' else oneType') s := hq
  cases hb : (!a.isEmpty) with
  | true =>
    rw [hb, if_pos rfl] at hq'
    rw [if_pos rfl]
    exact wpAny_pure hq'
  | false =>
    rw [hb, if_neg Bool.false_ne_true] at hq'
    rw [if_neg Bool.false_ne_true]
    rw [oneTypeOnly'_eq, List.mapM_toArray, map_eq_pure_bind]
    refine wpAny_bind (wpAny_bind (wpAny_bind (PySem.W.kas_mapM (r := Value.type "tuple") _ (fun v hv Q' hq => ?_) (wpAny_pure ?_))))
    · obtain ⟨a, _, as, r⟩ := e.left v hv
      exact (PySem.W.looks_reads r).here hq
    · obtain ⟨v, vs', rfl⟩ : ∃ v vs', vs = v :: vs' := by
        cases vs with
        | nil => simp at h2
        | cons v vs' => exact ⟨v, vs', rfl⟩
      have g1 : ((List.map (fun _ => Value.type "tuple") (v :: vs')).toArray.all fun x => x == Value.type "tuple") = true := by
        simp only [List.all_toArray, List.all_map, List.all_eq_true]
        intro _ _
        rfl
      have g0 : (List.map (fun _ => Value.type "tuple") (v :: vs')).toArray[0]? = some (Value.type "tuple") := by simp
      rw [g0]
      simp only [g1, if_true]
      exact wpAny_pure (wpAny_pure hq')
theorem tup_lt_call {Q : Value → Shared → Prop} {l b : Addr} {xs ys : Array Value} {e r : Nat → Bool} (h1 : s.heap.IsTuple l xs) (h2 : s.heap.IsTuple b ys)
    (he : ∀ j (h1 : j < xs.size) (h2 : j < ys.size), PySem.SeqAt.EqAt A.in1 s xs[j] ys[j] (e j)) (hr : ∀ j (h1 : j < xs.size) (h2 : j < ys.size), e j = false → PySem.SeqAt.RcLt A.in1 s xs[j] ys[j] (r j))
    (q : Q (.bool (PySem.SeqAt.firstLt e r (decide (xs.size < ys.size)) (List.range (min xs.size ys.size)))) s) : wpAny (model prog w) A (call (.builtin "tuple.__lt__") [.ref l, .ref b]) Q E s := by
  obtain ⟨⟨c1, d1, t1, l1⟩, a1, a2, n1, a3⟩ := id h1
  obtain ⟨⟨c2, d2, t2, l2⟩, b1, b2, n2, b3⟩ := id h2
  simp only at a2 a3 b2 b3
  subst a2 a3 b2 b3
  exact PySem.call_meets PySem.F.slot_tuple_lt ⟨_, a1, rfl⟩ PySem.F.entry_tuple_lt (PySem.F.args_tuple_lt_2 _ _) (PySem.SeqAt.tuple_ltAt l b xs ys n1 n2 d1 d2 l1 l2 e r) ⟨a1, b1, he, hr, q⟩
theorem one_lt_nm {a b : List Str} {x y : Value} {as bs : List Addr} {Q : Bool → Shared → Prop} (ra : Reads s.heap x (encNm a) as) (rb : Reads s.heap y (encNm b) bs) (hu : A.units + 10 < cLine) (hq : Q (ltN a b) s) : wpAny (model prog w) A (oneLt' true x y) Q E s := by
  have hal := alike_strs a b
  have hda : PyData.depthAll (a.map PyData.str) ≤ 1 := by
    have := depth_nm a
    simp only [encNm, PyData.depth] at this
    omega
  rw [← lt_nm, PySem.W.dataLt_tuple] at hq
  cases ra with
  | @tuple l o vs n _ _ h1 h2 h3 h4 =>
    cases rb with
    | @tuple l' o' vs' n' _ _ k1 k2 k3 k4 =>
      have n1 : vs.size = (a.map PyData.str).length := by simpa using PySem.SeqAt.ReadsAll.length _ _ _ h4
      have n2 : vs'.size = (b.map PyData.str).length := by simpa using PySem.SeqAt.ReadsAll.length _ _ _ k4
      rw [← PySem.W.firstLt_toks _ _ hal, ← n1, ← n2] at hq
      have hz : A.in1.units + min (PyData.depthAll (a.map PyData.str)) (PyData.depthAll (b.map PyData.str)) < cLine := by
        rw [in1_units]
        omega
      rw [oneLt'_eq]
      simp only [if_true]
      refine wpAny_bind (wpAny_cRoomFor (by omega) ?_)
      refine wpAny_bind (wpAny_callSpecialIfBound?_slot (T := "tuple") ⟨_, h1, h2⟩ PySem.F.slot_tuple_lt (tup_lt_call (e := PySem.SeqAt.pairEq _ _) (r := fun j => PySem.W.dataLt ((a.map PyData.str).getD j .none) ((b.map PyData.str).getD j .none)) ⟨_, h1, h2, _, h3⟩ ⟨_, k1, k2, _, k3⟩ (fun j j1 j2 => ?_) (fun j j1 j2 hj => ?_) (wpAny_truthy_bool hq)))
      · have z := PySem.W.eqAt_alikeAll _ _ A.in1 s vs.toList vs'.toList _ _ h4 k4 hal hz j (by simpa using j1) (by simpa using j2)
        simpa using z
      · have z := PySem.W.rcLt_alikeAll _ _ A.in1 s vs.toList vs'.toList _ _ h4 k4 hal hz j (by simpa using j1) (by simpa using j2) hj
        simpa using z
theorem all_alike (N : List (List Str)) : PySem.W.AllAlike (N.map encNm) := PySem.W.AllAlike.of fun a b => alike_nm a b
theorem nm_sorts {vs : List Value} {N : List (List Str)} (e : PySem.W.EachIs (RdN s) vs N) (hu : A.units + 10 < cLine) : PySem.W.SortsAt prog w A s (PySem.W.dataKind s.heap (N.map encNm)) vs := by
  have em := PySem.W.each_map (R := fun v d => ∃ as, Reads s.heap v d as) encNm e
  have inv : ∀ {v : Value} {k : List (Int ⊕ List Nat)}, (PySem.W.dataKind s.heap (N.map encNm)).keyOf v = some k → ∃ a as, Reads s.heap v (encNm a) as ∧ k = PySem.W.keyToks (encNm a) := fun {v k} h => by
    obtain ⟨d, as, hd, r, hk⟩ := PySem.W.dataKind_inv h
    obtain ⟨a, _, rfl⟩ := List.mem_map.mp hd
    exact ⟨a, as, r, hk⟩
  cases hn : (N.all fun a => !a.isEmpty) with
  | true =>
    refine PySem.W.SortsAt.data em (all_alike N) (.inl fun d hd => ?_) fun d hd => ?_
    · obtain ⟨a, ha, rfl⟩ := List.mem_map.mp hd
      have := List.all_eq_true.mp hn a ha
      cases a with
      | nil => cases this
      | cons x r => exact ⟨_, _, rfl⟩
    · obtain ⟨a, ha, rfl⟩ := List.mem_map.mp hd
      have := depth_nm a
      omega
  | false =>
    refine ⟨fun v hv => ?_, (if (!(N.headD []).isEmpty) = true then general' else oneType'), ?_, fun h2 E Q hq => nm_kind e hn h2 hq⟩
    · obtain ⟨d, hd, as, r⟩ := em.left v hv
      exact ⟨_, PySem.W.dataKind_some (all_alike N) hd r⟩
    · intro E x y ka kb Q h1 h2 hq
      obtain ⟨a, as, ra, rfl⟩ := inv h1
      obtain ⟨b, bs, rb, rfl⟩ := inv h2
      have hq' : Q (ltN a b) s := by
        rw [← lt_nm]
        exact hq
      have da := depth_nm a
      split
      · show wpAny (model prog w) A (oneLt' false x y) Q E s
        rw [← lt_nm] at hq'
        exact PySem.W.oneLt_alike (fun h => absurd h Bool.false_ne_true) ra rb (alike_nm a b) (fun z => by cases z) (by omega) hq'
      · rw [keyLt'_oneType]
        exact one_lt_nm ra rb hu hq'
end
section
variable {X : Cx}
/-- sorted(xs), xs a list of names -/
def rSortedNm (K : PySem.W.Frag) : List V → Hp → VK → Prop := fun vs H Q => ∃ (p : Addr) (xs : List V) (N : List (List Str)) (G : Hp), vs = [V.ref p] ∧ SqL K H p xs ∧ Same G H ∧ Reps K G xs (N.map encNm) ∧ N.length < 64 ∧
  ∀ ys l, Reps K G ys ((sortN N).map encNm) → H l = none → Q (.ref l) (upd H l (.lst ys))
theorem reads_strs {h : Heap} : ∀ {a : List Str} {us : List Value}, Vals (a.map V.str) us → ReadsAll h us (a.map PyData.str) []
  | [], us, r => by cases r; exact .nil
  | x :: a, us, r => by
    cases r with
    | cons h t =>
      obtain ⟨t', rfl⟩ := h
      exact .cons (as := []) (.str _ _) (reads_strs t)
theorem nm_reads {pins : List (Addr × Obj)} {σ : L2.St} {H G : Hp} {s : Shared} (I : Inv X pins σ H s) (sm : Same G H) {x : V} {v : Value} {a : List Str} (r : Rep X.K G x (encNm a)) (rv : RelV x v) : RdN s v a := by
  cases r with
  | @tup t ys _ q rr =>
    cases rv
    obtain ⟨its, r1, r2, _⟩ := I.tuple (sqT_keep sm q)
    rw [rr.strs_inv] at r1
    obtain ⟨o, h1, h2, n, h3⟩ := (show s.heap.IsTuple t its.toArray from r2)
    exact ⟨[], .tuple h1 h2 h3 (by simpa using reads_strs r1)⟩
abbrev RvN (K : PySem.W.Frag) (G : Hp) : Value → List Str → Prop := fun v a => ∃ x, RelV x v ∧ Rep K G x (encNm a)
theorem nm_each {K : PySem.W.Frag} {G : Hp} : ∀ {xs : List V} {us : List Value} {N : List (List Str)}, Reps K G xs (N.map encNm) → Vals xs us → PySem.W.EachIs (RvN K G) us N
  | [], us, N, r, v => by
    cases v
    cases N with
    | nil => exact .nil
    | cons a N => cases r
  | x :: xs, us, N, r, v => by
    cases v with
    | cons h t =>
      cases N with
      | nil => cases r
      | cons a N =>
        cases r with
        | cons r1 r2 => exact .cons ⟨x, h, r1⟩ (nm_each r2 t)
theorem nm_back {K : PySem.W.Frag} {G : Hp} : ∀ {us : List Value} {N : List (List Str)}, PySem.W.EachIs (RvN K G) us N → ∃ ys, Vals ys us ∧ Reps K G ys (N.map encNm)
  | _, _, .nil => ⟨[], .nil, .nil⟩
  | _, _, .cons ⟨x, h1, h2⟩ t => by
    obtain ⟨ys, t1, t2⟩ := nm_back t
    exact ⟨x :: ys, .cons h1 t1, .cons h2 t2⟩
theorem cr_sortedNm (hu : X.A.units + 100 < cLine) : CallR X (.builtin "sorted") (rSortedNm X.K) := by
  intro pins s σ H vs us Q I r h
  obtain ⟨p, xs, N, G, rfl, hs, sm, rr, h64, q⟩ := h
  obtain ⟨its, rv, hl, hz⟩ := I.list hs
  rw [Vals.ref1 r]
  have e := nm_each rr rv
  have er : PySem.W.EachIs (RdN s) its N := e.mono fun v a ⟨x, h1, h2⟩ => nm_reads I sm h2 h1
  have er' : PySem.W.EachIs (fun v b => ∃ as, Reads (PySem.W.sortingHeap (PySem.W.copyHeap s.heap its) (s.heap.objs.size + 1) its) v (encNm b) as) its N := er.mono fun _ _ ⟨as, r⟩ => ⟨as, PyProof.Rows.Reads.keeps (fun _ _ => PySem.W.sorting_copy_old) r⟩
  have hlen : its.length = N.length := e.length
  have out := PySem.W.sortVals_data (R := RvN X.K G) (enc := encNm) false e er' (all_alike N)
  rw [le_nm] at out
  obtain ⟨ys, y1, y2⟩ := nm_back out
  refine PySem.W.sorted_vals hl.isList (nm_sorts (s := { s with heap := PySem.W.sortingHeap (PySem.W.copyHeap s.heap its) (s.heap.objs.size + 1) its }) er' (by rw [in1_units, in1_units]; omega)) (by rw [hlen]; exact small64 h64) ?_
  obtain ⟨ep, he'⟩ := PyProof.Rows.sortedAll_at s.heap its (PySem.W.sortVals (PySem.W.dataKind (PySem.W.sortingHeap (PySem.W.copyHeap s.heap its) (s.heap.objs.size + 1) its) (N.map encNm)) false its its).toArray
  have hyl : ys.length ≤ sizeLine := by
    have := y2.length
    rw [List.length_map] at this
    rw [this]
    rw [List.length_mergeSort]
    exact small64 h64
  exact ⟨.ref _, upd H (s.heap.objs.size + 1) (.lst ys), I.laid (t' := s.toks) (fun _ _ => PyProof.Rows.sortedAll_old) (Nat.le_succ _) ⟨hyl, _, ep, y1, he'⟩, rfl, q ys _ y2 (I.hok.fresh (Nat.le_succ _))⟩
end
end NW
end

section
set_option maxHeartbeats 4000000
/-! Truth, subscripts, slices, built-ins, methods over data. -/
namespace NW
open PySem PySem.Spec PyProof.Rows L2

theorem isEmpty_reps {K : PySem.W.Frag} {G : Hp} {vs : List V} {ds : List Dat} (r : Reps K G vs ds) : vs.isEmpty = ds.isEmpty := by cases r <;> rfl
theorem tru_of {K : PySem.W.Frag} {H G : Hp} (sm : Same G H) {v : V} {d : Dat} {b : Bool} (r : RW K H G v d) (h : truD d = .ok b) : TruV K v H b := by
  cases d with
  | none => have := r.non; subst this; cases h; rfl
  | bool _ => have := r.bool; subst this; cases h; rfl
  | int _ => have := r.int; subst this; cases h; rfl
  | str s =>
    have := r.str; subst this
    simp only [truD] at h
    split at h <;> cases h
    rename_i hz
    refine ⟨le_line hz, ?_⟩
    by_cases z : s.length = 0
    · simp [z]
    · have z2 : ((s.length : Nat) : Int) ≠ 0 := by omega
      simp [z, z2]
  | list ds => obtain ⟨a, vs, rfl, q, rr⟩ := r.list sm; cases h; exact .inl ⟨vs, q, by rw [isEmpty_reps rr]⟩
  | tuple ds => obtain ⟨a, vs, rfl, q, rr⟩ := r.tup sm; cases h; exact .inr (.inl ⟨vs, sqT_keep sm q, by rw [isEmpty_reps rr]⟩)
  | dict _ => cases h
theorem ixN_len {α β : Type} {xs : List α} {ys : List β} (h : xs.length = ys.length) {i : Int} {d : β} (e : atI ys i = some d) : ∃ j, ixN xs.length i = some j ∧ ys[j]? = some d := by
  unfold atI at e
  rw [← h] at e
  cases q : ixN xs.length i with
  | none => rw [q] at e; cases e
  | some j => rw [q] at e; exact ⟨j, rfl, e⟩
theorem reps_at {K : PySem.W.Frag} {G : Hp} {vs : List V} {ds : List Dat} (r : Reps K G vs ds) {i : Int} {d : Dat} (e : atI ds i = some d) : ∃ v, atI vs i = some v ∧ Rep K G v d := by
  obtain ⟨j, h1, h2⟩ := ixN_len r.length e
  obtain ⟨v, h3, h4⟩ := r.get h2
  exact ⟨v, by unfold atI; rw [h1]; exact h3, h4⟩
section
variable {X : Cx}
theorem ix_data : IxR X (R2D X.K ixD) := by
  intro value slice pins s σ H x y v u Q I rx ry h hs
  obtain ⟨G, d, e, r, sm, rd, re, hf, fin⟩ := h
  cases d <;> cases e <;> simp only [ixD] at hf <;> try (cases hf; done)
  · split at hf
    · have := re.int; subst this
      have := rd.str; subst this
      rename_i hz
      split at hf <;> cases hf
      rename_i c hc
      exact ix_str value slice pins s σ H _ _ v u Q I rx ry ⟨_, _, c, rfl, rfl, le_line hz, hc, fin.flat sm (.str _)⟩ hs
    · cases hf
  · split at hf <;> cases hf
    rename_i i hi
    have := re.int; subst this
    obtain ⟨a, vs, rfl, q, rr⟩ := rd.list sm
    obtain ⟨w, h1, h2⟩ := reps_at rr hi
    exact ix_list value slice pins s σ H _ _ v u Q I rx ry ⟨_, _, _, w, rfl, rfl, q, h1, fin.here sm h2⟩ hs
  · split at hf <;> cases hf
    rename_i i hi
    have := re.int; subst this
    obtain ⟨a, vs, rfl, q, rr⟩ := rd.tup sm
    obtain ⟨w, h1, h2⟩ := reps_at rr hi
    exact ix_tup value slice pins s σ H _ _ v u Q I rx ry ⟨_, _, _, w, rfl, rfl, sqT_keep sm q, h1, fin.here sm h2⟩ hs
theorem cut_reps {K : PySem.W.Frag} {G : Hp} {vs : List V} {ds : List Dat} (r : Reps K G vs ds) (lo hi : Option Int) : Reps K G (cutV vs lo hi) (cutL ds lo hi) := by
  unfold cutV cutL
  rw [r.length]
  exact (r.drop _).take _
theorem cut_whole {α : Type} {xs : List α} {lo hi : Option Int} (h : HT.sIx xs.length 0 lo = 0 ∧ HT.sIx xs.length xs.length hi = xs.length) : cutL xs lo hi = xs := by
  unfold cutL
  rw [h.1, h.2]
  simp
/-- a slice by data -/
def rSlD (K : PySem.W.Frag) : V → Option Int → Option Int → Hp → VK → Prop := fun x lo hi H Q => ∃ G d r, Same G H ∧ RW K H G x d ∧ slD d lo hi = .ok r ∧ Fin K H G Q r
theorem sl_data : SlR X (rSlD X.K) := by
  intro pins s σ H x v vl vu lo hi sl Q I rx hs pl pu h
  obtain ⟨G, d, r, sm, rd, hf, fin⟩ := h
  cases d <;> simp only [slD] at hf <;> try (cases hf; done)
  · split at hf <;> cases hf
    rename_i hz
    have := rd.str; subst this
    exact sl_str pins s σ H _ v vl vu lo hi sl Q I rx hs pl pu ⟨_, rfl, le_line hz, fin.flat sm (.str _)⟩
  · cases hf
    obtain ⟨a, vs, rfl, q, rr⟩ := rd.list sm
    exact sl_list pins s σ H _ v vl vu lo hi sl Q I rx hs pl pu ⟨a, vs, rfl, q, fun p np => (New.still fin).lst sm (cut_reps rr lo hi) p np⟩
  · cases hf
    obtain ⟨a, vs, rfl, q, rr⟩ := rd.tup sm
    refine sl_tupA pins s σ H _ v vl vu lo hi sl Q I rx hs pl pu ⟨a, vs, rfl, sqT_keep sm q, fun e => ?_, fun _ p np => fin.tup sm (cut_reps rr lo hi) p np⟩
    rw [rr.length] at e
    rw [cut_whole e] at fin
    exact fin.here sm (.tup q rr)

/-! ### built-ins -/
inductive RWs (K : PySem.W.Frag) (H G : Hp) : List V → List Dat → Prop
  | nil : RWs K H G [] []
  | cons {v : V} {vs : List V} {d : Dat} {ds : List Dat} : RW K H G v d → RWs K H G vs ds → RWs K H G (v :: vs) (d :: ds)
def nmB (f : Bi) : Str := match f with
  | .len => "len"
  | .min2 => "min"
  | .max2 => "max"
  | .int => "int"
  | .str => "str"
  | .ord => "ord"
  | .tuple => "tuple"
  | .list => "list"
  | .any => "any"
  | .all => "all"
  | .min1 => "min"
  | .sorted => "sorted"
def vlB (f : Bi) : Value := match f with
  | .len => .builtin "len"
  | .min2 => .builtin "min"
  | .max2 => .builtin "max"
  | .int => .type "int"
  | .str => .type "str"
  | .ord => .builtin "ord"
  | .tuple => .type "tuple"
  | .list => .type "list"
  | .any => .builtin "any"
  | .all => .builtin "all"
  | .min1 => .builtin "min"
  | .sorted => .builtin "sorted"
theorem boot_bi (f : Bi) : bootBuiltins (nmB f) = some (vlB f) := by cases f <;> decide +kernel
/-- a call of a built-in by data -/
def rBi (K : PySem.W.Frag) (f : Bi) : List V → Hp → VK → Prop := fun vs H Q => ∃ G ds r, Same G H ∧ RWs K H G vs ds ∧ biD f ds = .ok r ∧ Fin K H G Q r
theorem rws1 {K : PySem.W.Frag} {H G : Hp} {vs : List V} {d : Dat} (r : RWs K H G vs [d]) : ∃ v, vs = [v] ∧ RW K H G v d := by
  cases r with | cons r t => cases t; exact ⟨_, rfl, r⟩
theorem rws2 {K : PySem.W.Frag} {H G : Hp} {vs : List V} {d e : Dat} (r : RWs K H G vs [d, e]) : ∃ v w, vs = [v, w] ∧ RW K H G v d ∧ RW K H G w e := by
  cases r with | cons r t => obtain ⟨w, rfl, q⟩ := rws1 t; exact ⟨_, _, rfl, r, q⟩
theorem biD1 {f : Bi} {ds : List Dat} {r : Dat} (h : biD f ds = .ok r) : (∃ d, ds = [d]) ∨ (∃ d e, ds = [d, e]) := by
  cases f <;> (rcases ds with _ | ⟨a, _ | ⟨b, _ | ⟨c, t⟩⟩⟩) <;> first | exact .inl ⟨_, rfl⟩ | exact .inr ⟨_, _, rfl⟩ | (simp only [biD] at h; cases h; done) | (simp [biD] at h; done)
theorem strsD_some : ∀ {ds : List Dat} {ys : List Str}, strsD ds = some ys → ds = ys.map PyData.str
  | [], ys, h => by cases h; rfl
  | d :: ds, ys, h => by
    cases d <;> simp only [strsD] at h <;> try (cases h; done)
    cases q : strsD ds with
    | none => rw [q] at h; cases h
    | some zs => rw [q] at h; cases h; rw [strsD_some q]; rfl
theorem intsD_some : ∀ {ds : List Dat} {ys : List Int}, intsD ds = some ys → ds = ys.map PyData.int
  | [], ys, h => by cases h; rfl
  | d :: ds, ys, h => by
    cases d <;> simp only [intsD] at h <;> try (cases h; done)
    cases q : intsD ds with
    | none => rw [q] at h; cases h
    | some zs => rw [q] at h; cases h; rw [intsD_some q]; rfl
theorem boolsD_some : ∀ {ds : List Dat} {ys : List Bool}, boolsD ds = some ys → ds = ys.map PyData.bool
  | [], ys, h => by cases h; rfl
  | d :: ds, ys, h => by
    cases d <;> simp only [boolsD] at h <;> try (cases h; done)
    cases q : boolsD ds with
    | none => rw [q] at h; cases h
    | some zs => rw [q] at h; cases h; rw [boolsD_some q]; rfl
theorem reps_bools {K : PySem.W.Frag} {G : Hp} : ∀ {bs : List Bool} {vs : List V}, Reps K G vs (bs.map PyData.bool) → vs = bs.map V.bl
  | [], vs, h => by cases h; rfl
  | b :: bs, vs, h => by
    cases h with
    | cons r t => cases r; rw [reps_bools t]; rfl
theorem reps_ints_inv {K : PySem.W.Frag} {G : Hp} : ∀ {bs : List Int} {vs : List V}, Reps K G vs (bs.map PyData.int) → vs = bs.map V.int
  | [], vs, h => by cases h; rfl
  | b :: bs, vs, h => by
    cases h with
    | cons r t => cases r; rw [reps_ints_inv t]; rfl
theorem minL_mem : ∀ (r : List Int) (n : Int), minL n r ∈ n :: r
  | [], n => by simp [minL]
  | b :: r, n => by
    have e : minL n (b :: r) = minL (if b < n then b else n) r := rfl
    rw [e]
    have z := minL_mem r (if b < n then b else n)
    by_cases hb : b < n
    · rw [if_pos hb] at z ⊢
      simp only [List.mem_cons] at z ⊢
      rcases z with z | z
      · exact .inr (.inl z)
      · exact .inr (.inr z)
    · rw [if_neg hb] at z ⊢
      simp only [List.mem_cons] at z ⊢
      rcases z with z | z
      · exact .inl z
      · exact .inr (.inr z)
theorem minL_le : ∀ (r : List Int) (n : Int), minL n r ≤ n ∧ ∀ y ∈ r, minL n r ≤ y
  | [], n => by simp [minL]
  | b :: r, n => by
    have e : minL n (b :: r) = minL (if b < n then b else n) r := rfl
    rw [e]
    obtain ⟨h1, h2⟩ := minL_le r (if b < n then b else n)
    have h3 : (if b < n then b else n) ≤ n ∧ (if b < n then b else n) ≤ b := by split <;> omega
    refine ⟨by omega, fun y hy => ?_⟩
    simp only [List.mem_cons] at hy
    rcases hy with rfl | hy
    · omega
    · exact h2 y hy
theorem ltCps_iff : ∀ a b : List Nat, ltCps a b = true ↔ a < b
  | [], [] => by simp [ltCps]
  | [], _ :: _ => by simp [ltCps]
  | _ :: _, [] => by simp [ltCps]
  | x :: a, y :: b => by
    rw [List.cons_lt_cons_iff, ← ltCps_iff a b]
    simp [ltCps]
theorem leS_iff (a b : Str) : leS a b = true ↔ a.cps.toList ≤ b.cps.toList := by
  unfold leS
  rw [← List.not_lt, ← ltCps_iff]
  simp
theorem leS_trans (a b c : Str) (h1 : leS a b = true) (h2 : leS b c = true) : leS a c = true := by
  rw [leS_iff] at *
  exact List.le_trans h1 h2
theorem leS_total (a b : Str) : (leS a b || leS b a) = true := by
  rw [Bool.or_eq_true, leS_iff, leS_iff]
  exact List.le_total _ _
theorem leS_anti (a b : Str) (h1 : leS a b = true) (h2 : leS b a = true) : a = b := by
  rw [leS_iff] at *
  have := List.le_antisymm h1 h2
  cases a; cases b
  simp at this
  simp [this]
theorem rising_pair : ∀ (r : List Str) (x : Str), PyProof.Rows.risingS x r = true → (x :: r).Pairwise (fun a b => leS a b = true)
  | [], x, _ => by simp
  | y :: r, x, h => by
    rw [PyProof.Rows.risingS] at h
    rw [Bool.and_eq_true] at h
    have z := rising_pair r y h.2
    have h1 : leS x y = true := h.1
    rw [List.pairwise_cons] at z ⊢
    refine ⟨fun a ha => ?_, by rw [List.pairwise_cons]; exact z⟩
    simp only [List.mem_cons] at ha
    rcases ha with rfl | ha
    · exact h1
    · exact leS_trans _ _ _ h1 (z.1 a ha)
theorem sortStr_pair (xs : List Str) : (sortStr xs).Pairwise (fun a b => leS a b = true) := List.pairwise_mergeSort leS_trans leS_total xs
theorem sortStr_perm (xs : List Str) : (sortStr xs).Perm xs := List.mergeSort_perm xs leS
theorem sortStr_uniq (xs ys : List Str) (h : ys.Perm xs) (s : PyProof.Rows.sortedS ys = true) : ys = sortStr xs := by
  have p : ys.Pairwise (fun a b => leS a b = true) := by
    cases ys with
    | nil => exact List.Pairwise.nil
    | cons y ys => exact rising_pair ys y s
  exact List.Perm.eq_of_pairwise (fun a b _ _ => leS_anti a b) p (sortStr_pair xs) (h.trans (sortStr_perm xs).symm)
theorem namesD_some : ∀ {ds : List Dat} {N : List (List Str)}, namesD ds = some N → ds = N.map encNm
  | [], N, h => by simp only [namesD] at h; cases h; rfl
  | d :: ds, N, h => by
    cases d <;> simp only [namesD] at h <;> try (cases h; done)
    rename_i xs
    cases q : strsD xs with
    | none => rw [q] at h; cases h
    | some a =>
      rw [q] at h
      simp only at h
      cases q2 : namesD ds with
      | none => rw [q2] at h; cases h
      | some M =>
        rw [q2] at h
        cases h
        rw [namesD_some q2, strsD_some q]
        rfl
theorem call_bi (hc : X.calm = true) (hu : X.A.units + 100 < cLine) (f : Bi) : CallR X (vlB f) (rBi X.K f) := by
  intro pins s σ H xs us Q I r h
  obtain ⟨G, ds, d, sm, rs, hf, fin⟩ := h
  cases f with
  | len =>
    rcases biD1 hf with ⟨a, rfl⟩ | ⟨a, b, rfl⟩
    · obtain ⟨v, rfl, rv⟩ := rws1 rs
      cases a <;> simp only [biD] at hf <;> try (cases hf; done)
      · split at hf <;> cases hf
        rename_i hz
        have := rv.str; subst this
        exact call_len pins s σ H _ us Q I r ⟨_, _, rfl, ⟨le_line hz, rfl⟩, fin.flat sm (.int _)⟩
      · cases hf
        obtain ⟨p, vs, rfl, q, rr⟩ := rv.list sm
        rw [← rr.length] at fin
        exact call_len pins s σ H _ us Q I r ⟨_, vs.length, rfl, .inl ⟨vs, q, rfl⟩, fin.flat sm (.int _)⟩
      · cases hf
        obtain ⟨p, vs, rfl, q, rr⟩ := rv.tup sm
        rw [← rr.length] at fin
        exact call_len pins s σ H _ us Q I r ⟨_, vs.length, rfl, .inr ⟨vs, sqT_keep sm q, rfl⟩, fin.flat sm (.int _)⟩
    · cases a <;> simp only [biD] at hf <;> cases hf
  | min2 =>
    rcases biD1 hf with ⟨a, rfl⟩ | ⟨a, b, rfl⟩
    · cases a <;> simp only [biD] at hf <;> cases hf
    · cases a <;> cases b <;> simp only [biD] at hf <;> try (cases hf; done)
      cases hf
      obtain ⟨v, w, rfl, r1, r2⟩ := rws2 rs
      have := r1.int; subst this
      have := r2.int; subst this
      exact call_min2 hc pins s σ H _ us Q I r ⟨_, _, rfl, fin.flat sm (.int _)⟩
  | max2 =>
    rcases biD1 hf with ⟨a, rfl⟩ | ⟨a, b, rfl⟩
    · cases a <;> simp only [biD] at hf <;> cases hf
    · cases a <;> cases b <;> simp only [biD] at hf <;> try (cases hf; done)
      cases hf
      obtain ⟨v, w, rfl, r1, r2⟩ := rws2 rs
      have := r1.int; subst this
      have := r2.int; subst this
      exact call_max2 hc pins s σ H _ us Q I r ⟨_, _, rfl, fin.flat sm (.int _)⟩
  | int =>
    rcases biD1 hf with ⟨a, rfl⟩ | ⟨a, b, rfl⟩
    · cases a <;> simp only [biD] at hf <;> try (cases hf; done)
      · cases hf
        obtain ⟨v, rfl, rv⟩ := rws1 rs
        have hv : v = .bl _ := RW.bool rv
        subst hv
        exact call_int1 pins s σ H _ us Q I r (.inr ⟨_, rfl, fin.flat sm (.int _)⟩)
      split at hf
      · rename_i n hn
        split at hf <;> cases hf
        rename_i hz
        obtain ⟨v, rfl, rv⟩ := rws1 rs
        have := rv.str; subst this
        exact call_int_str pins s σ H _ us Q I r ⟨_, _, rfl, hn, hz, fin.flat sm (.int _)⟩
      · cases hf
    · cases a <;> simp only [biD] at hf <;> cases hf
  | str =>
    rcases biD1 hf with ⟨a, rfl⟩ | ⟨a, b, rfl⟩
    · cases a <;> simp only [biD] at hf <;> try (cases hf; done)
      split at hf <;> cases hf
      rename_i hz
      obtain ⟨v, rfl, rv⟩ := rws1 rs
      have := rv.int; subst this
      exact call_str_int pins s σ H _ us Q I r ⟨_, rfl, hz, fin.flat sm (.str _)⟩
    · cases a <;> simp only [biD] at hf <;> cases hf
  | ord =>
    rcases biD1 hf with ⟨a, rfl⟩ | ⟨a, b, rfl⟩
    · cases a <;> simp only [biD] at hf <;> try (cases hf; done)
      split at hf <;> cases hf
      rename_i hz
      obtain ⟨v, rfl, rv⟩ := rws1 rs
      have := rv.str; subst this
      exact call_ord pins s σ H _ us Q I r ⟨_, rfl, hz, fin.flat sm (.int _)⟩
    · cases a <;> simp only [biD] at hf <;> cases hf
  | tuple =>
    rcases biD1 hf with ⟨a, rfl⟩ | ⟨a, b, rfl⟩
    · obtain ⟨v, rfl, rv⟩ := rws1 rs
      cases a <;> simp only [biD] at hf <;> try (cases hf; done)
      · cases hf
        obtain ⟨p, vs, rfl, q, rr⟩ := rv.list sm
        exact call_tuple_of pins s σ H _ us Q I r ⟨_, vs, rfl, .inl ⟨q, fun l nl => fin.tup sm rr l nl⟩⟩
      · cases hf
        obtain ⟨p, vs, rfl, q, rr⟩ := rv.tup sm
        exact call_tuple_of pins s σ H _ us Q I r ⟨_, vs, rfl, .inr ⟨sqT_keep sm q, fin.here sm (.tup q rr)⟩⟩
    · cases a <;> simp only [biD] at hf <;> cases hf
  | list =>
    rcases biD1 hf with ⟨a, rfl⟩ | ⟨a, b, rfl⟩
    · obtain ⟨v, rfl, rv⟩ := rws1 rs
      cases a <;> simp only [biD] at hf <;> try (cases hf; done)
      · cases hf
        obtain ⟨p, vs, rfl, q, rr⟩ := rv.list sm
        exact call_list_of pins s σ H _ us Q I r ⟨_, vs, rfl, .inl q, fun l nl => (New.still fin).lst sm rr l nl⟩
      · cases hf
        obtain ⟨p, vs, rfl, q, rr⟩ := rv.tup sm
        exact call_list_of pins s σ H _ us Q I r ⟨_, vs, rfl, .inr (sqT_keep sm q), fun l nl => (New.still fin).lst sm rr l nl⟩
    · cases a <;> simp only [biD] at hf <;> cases hf
  | any =>
    rcases biD1 hf with ⟨a, rfl⟩ | ⟨a, b, rfl⟩
    · cases a <;> simp only [biD] at hf <;> try (cases hf; done)
      unfold anyD at hf
      split at hf <;> cases hf
      rename_i bs hb
      obtain ⟨v, rfl, rv⟩ := rws1 rs
      obtain ⟨p, vs, rfl, q, rr⟩ := rv.list sm
      rw [boolsD_some hb] at rr
      rw [reps_bools rr] at q
      exact cr_any hc pins s σ H _ us Q I r ⟨p, bs, rfl, q, fin.flat sm (.bl _)⟩
    · cases a <;> simp only [biD] at hf <;> cases hf
  | all =>
    rcases biD1 hf with ⟨a, rfl⟩ | ⟨a, b, rfl⟩
    · cases a <;> simp only [biD] at hf <;> try (cases hf; done)
      unfold allD at hf
      split at hf <;> cases hf
      rename_i bs hb
      obtain ⟨v, rfl, rv⟩ := rws1 rs
      obtain ⟨p, vs, rfl, q, rr⟩ := rv.list sm
      rw [boolsD_some hb] at rr
      rw [reps_bools rr] at q
      exact cr_all hc pins s σ H _ us Q I r ⟨p, bs, rfl, q, fin.flat sm (.bl _)⟩
    · cases a <;> simp only [biD] at hf <;> cases hf
  | min1 =>
    rcases biD1 hf with ⟨a, rfl⟩ | ⟨a, b, rfl⟩
    · cases a <;> simp only [biD] at hf <;> try (cases hf; done)
      unfold minD at hf
      split at hf <;> cases hf
      rename_i n ns hb
      obtain ⟨v, rfl, rv⟩ := rws1 rs
      obtain ⟨p, vs, rfl, q, rr⟩ := rv.list sm
      rw [intsD_some hb] at rr
      rw [reps_ints_inv rr] at q
      refine cr_min hc pins s σ H _ us Q I r ⟨p, n :: ns, rfl, q, by simp, fun m hm hl => ?_⟩
      have e : m = minL n ns := by
        have h1 := hl _ (minL_mem ns n)
        obtain ⟨h2, h3⟩ := minL_le ns n
        simp only [List.mem_cons] at hm
        rcases hm with rfl | hm
        · omega
        · have := h3 m hm
          omega
      rw [e]
      exact fin.flat sm (.int _)
    · cases a <;> simp only [biD] at hf <;> cases hf
  | sorted =>
    rcases biD1 hf with ⟨a, rfl⟩ | ⟨a, b, rfl⟩
    · cases a <;> simp only [biD] at hf <;> try (cases hf; done)
      unfold sortD at hf
      split at hf
      · rename_i xs hx
        split at hf <;> cases hf
        rename_i hz
        obtain ⟨v, rfl, rv⟩ := rws1 rs
        obtain ⟨p, vs, rfl, q, rr⟩ := rv.list sm
        rw [strsD_some hx] at rr
        rw [rr.strs_inv] at q
        refine cr_sortedS pins s σ H _ us Q I r ⟨p, xs, rfl, q, hz, fun ys l hp hs nl => ?_⟩
        rw [sortStr_uniq xs ys hp hs]
        exact (New.still fin).lst sm (Reps.strs _) l nl
      · unfold sortND at hf
        split at hf
        · rename_i N hx
          split at hf <;> cases hf
          rename_i hz
          obtain ⟨v, rfl, rv⟩ := rws1 rs
          obtain ⟨p, vs, rfl, q, rr⟩ := rv.list sm
          rw [namesD_some hx] at rr
          exact cr_sortedNm hu pins s σ H _ us Q I r ⟨p, vs, N, G, rfl, q, sm, rr, hz, fun ys l ry nl => (New.still fin).lst sm ry l nl⟩
        · cases hf
    · cases a <;> simp only [biD] at hf <;> cases hf
/-- list(x) as a list of one's own -/
def rListN (K : PySem.W.Frag) : List V → Hp → VK → Prop := fun vs H Q => ∃ G d ds, Same G H ∧ RWs K H G vs [d] ∧ biD .list [d] = .ok (.list ds) ∧ New K H G Q ds
theorem call_listN : CallR X (.type "list") (rListN X.K) := by
  intro pins s σ H xs us Q I r h
  obtain ⟨G, d, ds, sm, rs, hf, fin⟩ := h
  obtain ⟨v, rfl, rv⟩ := rws1 rs
  cases d <;> simp only [biD] at hf <;> try (cases hf; done)
  · cases hf
    obtain ⟨p, vs, rfl, q, rr⟩ := rv.list sm
    exact call_list_of pins s σ H _ us Q I r ⟨_, vs, rfl, .inl q, fun l nl => fin.lst sm rr l nl⟩
  · cases hf
    obtain ⟨p, vs, rfl, q, rr⟩ := rv.tup sm
    exact call_list_of pins s σ H _ us Q I r ⟨_, vs, rfl, .inr (sqT_keep sm q), fun l nl => fin.lst sm rr l nl⟩

/-- sorted(x) as a list of one's own -/
def rSortN (K : PySem.W.Frag) : List V → Hp → VK → Prop := fun vs H Q => ∃ G d ds, Same G H ∧ RWs K H G vs [d] ∧ biD .sorted [d] = .ok (.list ds) ∧ New K H G Q ds
theorem call_sortedN (hc : X.calm = true) (hu : X.A.units + 100 < cLine) : CallR X (.builtin "sorted") (rSortN X.K) := by
  intro pins s σ H xs us Q I r h
  obtain ⟨G, d, ds, sm, rs, hf, fin⟩ := h
  obtain ⟨v, rfl, rv⟩ := rws1 rs
  cases d <;> simp only [biD] at hf <;> try (cases hf; done)
  unfold sortD at hf
  split at hf
  · rename_i xs hx
    split at hf <;> cases hf
    rename_i hz
    obtain ⟨p, vs, rfl, q, rr⟩ := rv.list sm
    rw [strsD_some hx] at rr
    rw [rr.strs_inv] at q
    refine cr_sortedS pins s σ H _ us Q I r ⟨p, xs, rfl, q, hz, fun ys l hp hs nl => ?_⟩
    rw [sortStr_uniq xs ys hp hs]
    exact fin.lst sm (Reps.strs _) l nl
  · unfold sortND at hf
    split at hf
    · rename_i N hx
      split at hf <;> cases hf
      rename_i hz
      obtain ⟨p, vs, rfl, q, rr⟩ := rv.list sm
      rw [namesD_some hx] at rr
      exact cr_sortedNm hu pins s σ H _ us Q I r ⟨p, vs, N, G, rfl, q, sm, rr, hz, fun ys l ry nl => fin.lst sm ry l nl⟩
    · cases hf

/-! ### isinstance -/
def nmT (t : Ty) : String := match t with
  | .int => "int"
  | .str => "str"
  | .bool => "bool"
  | .tuple => "tuple"
  | .list => "list"
theorem boot_ty (t : Ty) : bootBuiltins (PySem.Str.ofString (nmT t)) = some (.type (nmT t)) := by cases t <;> decide +kernel
theorem tyX_list {K : PySem.W.Frag} {H : Hp} {a : Addr} {vs : List V} (h : SqL K H a vs) : TyX K H (.ref a) (.type "list") := by
  rcases h with (h | ⟨o, h⟩) | ⟨o, its, n, h, c, _⟩
  · exact .base (.lst h)
  · exact .base (.frz h)
  · exact .kList h c
theorem tyX_tup {K : PySem.W.Frag} {H : Hp} {a : Addr} {vs : List V} (h : SqT K H a vs) : TyX K H (.ref a) (.type "tuple") := by
  rcases h with (h | ⟨o, h⟩) | ⟨o, its, n, h, c, _⟩
  · exact .base (.tup h)
  · exact .fTuple h
  · exact .kTuple h c
def rIsiD (K : PySem.W.Frag) (t : Ty) : List V → Hp → VK → Prop := fun vs H Q => ∃ G d v r, Same G H ∧ vs = [v, .ty (nmT t)] ∧ RW K H G v d ∧ isiD t d = .ok r ∧ Q (.bl r) H
theorem call_isiD (t : Ty) : CallR X (.builtin "isinstance") (rIsiD X.K t) := by
  intro pins s σ H xs us Q I r h
  obtain ⟨G, d, v, b, sm, rfl, rv, hf, q⟩ := h
  have key : ∃ T, TyX X.K H v (.type T) ∧ kitB T (nmT t) = some b := by
    cases d with
    | none => have := rv.non; subst this; refine ⟨_, .base .non, ?_⟩; cases t <;> simp only [isiD] at hf <;> cases hf <;> decide +kernel
    | bool x => have := rv.bool; subst this; refine ⟨_, .base (.bl _), ?_⟩; cases t <;> simp only [isiD] at hf <;> cases hf <;> decide +kernel
    | int x => have := rv.int; subst this; refine ⟨_, .base (.int _), ?_⟩; cases t <;> simp only [isiD] at hf <;> cases hf <;> decide +kernel
    | str x => have := rv.str; subst this; refine ⟨_, .base (.str _), ?_⟩; cases t <;> simp only [isiD] at hf <;> cases hf <;> decide +kernel
    | list x => obtain ⟨a, vs, rfl, q, _⟩ := rv.list sm; refine ⟨_, tyX_list q, ?_⟩; cases t <;> simp only [isiD] at hf <;> cases hf <;> decide +kernel
    | tuple x => obtain ⟨a, vs, rfl, q, _⟩ := rv.tup sm; refine ⟨_, tyX_tup (sqT_keep sm q), ?_⟩; cases t <;> simp only [isiD] at hf <;> cases hf <;> decide +kernel
    | dict x => cases t <;> simp only [isiD] at hf <;> cases hf
  obtain ⟨T, h1, h2⟩ := key
  exact call_isi pins s σ H _ us Q I r ⟨v, .ty (nmT t), .type T, .type (nmT t), b, rfl, .ty _, h1, kit_ty h2, q⟩

/-! ### methods of texts -/
def nm0 (m : M0) : Str := match m with
  | .lower => "lower"
  | .upper => "upper"
def id0 (m : M0) : String := match m with
  | .lower => "str.lower"
  | .upper => "str.upper"
theorem slot0 (m : M0) : Slot "str" (nm0 m) (id0 m) := by
  cases m
  · exact F.slot_str_lower
  · exact F.slot_str_upper
theorem type0 (m : M0) : typeOf (.builtin (id0 m)) = pure (.type "method_descriptor") := by
  cases m
  · exact F.type_str_lower
  · exact F.type_str_upper
def rM0 (K : PySem.W.Frag) (m : M0) : V → List V → Hp → VK → Prop := fun x xs H Q => xs = [] ∧ ∃ G d r, Same G H ∧ RW K H G x d ∧ m0D m d = .ok r ∧ Fin K H G Q r
theorem small_case {n : Nat} (h : n ≤ 1000000) : n ≤ 5592405 := by omega
theorem mt0_data (m : M0) : MtR X (id0 m) (rM0 X.K m) := by
  intro pins s σ H x xs v us Q I rx rs h
  obtain ⟨rfl, G, d, r, sm, rd, hf, fin⟩ := h
  cases m <;> (cases d <;> simp only [m0D] at hf <;> try (cases hf; done))
  · split at hf <;> cases hf
    rename_i hz
    have := rd.str; subst this
    exact mt_lower pins s σ H _ _ v us Q I rx rs ⟨_, rfl, rfl, small_case hz, fin.flat sm (.str _)⟩
  · split at hf <;> cases hf
    rename_i hz
    have := rd.str; subst this
    exact mt_upper pins s σ H _ _ v us Q I rx rs ⟨_, rfl, rfl, small_case hz, fin.flat sm (.str _)⟩
def nm1 (m : M1) : Str := match m with
  | .startswith => "startswith"
  | .endswith => "endswith"
  | .split => "split"
  | .join => "join"
  | .index => "index"
  | .rstrip => "rstrip"
  | .find => "find"
def id1 (m : M1) : String := match m with
  | .startswith => "str.startswith"
  | .endswith => "str.endswith"
  | .split => "str.split"
  | .join => "str.join"
  | .index => "str.index"
  | .rstrip => "str.rstrip"
  | .find => "str.find"
theorem slot1 (m : M1) : Slot "str" (nm1 m) (id1 m) := by
  cases m
  · exact F.slot_str_startswith
  · exact F.slot_str_endswith
  · exact F.slot_str_split
  · exact F.slot_str_join
  · exact F.slot_str_index
  · exact F.slot_str_rstrip
  · exact F.slot_str_find
theorem type1 (m : M1) : typeOf (.builtin (id1 m)) = pure (.type "method_descriptor") := by
  cases m
  · exact F.type_str_startswith
  · exact F.type_str_endswith
  · exact F.type_str_split
  · exact F.type_str_join
  · exact F.type_str_index
  · exact F.type_str_rstrip
  · exact F.type_str_find
def rM1 (K : PySem.W.Frag) (m : M1) : V → List V → Hp → VK → Prop := fun x xs H Q => ∃ G d y e r, Same G H ∧ xs = [y] ∧ RW K H G x d ∧ RW K H G y e ∧ m1D m d e = .ok r ∧ Fin K H G Q r
/-- s.split(t) as a list of one's own -/
def rSplitN (K : PySem.W.Frag) : V → List V → Hp → VK → Prop := fun x xs H Q => ∃ G a b, Same G H ∧ x = .str a ∧ xs = [.str b] ∧ b.length ≠ 0 ∧ a.length ≤ 1000000 ∧ New K H G Q ((Txt.split a b).map PyData.str)
theorem mt_splitN : MtR X "str.split" (rSplitN X.K) := by
  intro pins s σ H x xs v us Q I rx rs h
  obtain ⟨G, a, b, sm, rfl, rfl, hb, hz, fin⟩ := h
  refine mt_split pins s σ H _ _ v us Q I rx rs ⟨a, b, rfl, rfl, by simpa using hb, by rw [sizeLine_eq]; omega, fun p np => ?_⟩
  exact fin.lst sm (Reps.strs _) p np
theorem mt1_data (m : M1) : MtR X (id1 m) (rM1 X.K m) := by
  intro pins s σ H x xs v us Q I rx rs h
  obtain ⟨G, d, y, e, r, sm, rfl, rd, re, hf, fin⟩ := h
  cases m with
  | startswith =>
    cases d <;> cases e <;> simp only [m1D] at hf <;> try (cases hf; done)
    cases hf
    have := rd.str; subst this
    have := re.str; subst this
    exact mt_startswith pins s σ H _ _ v us Q I rx rs ⟨_, _, rfl, rfl, fin.flat sm (.bl _)⟩
  | endswith =>
    cases d <;> cases e <;> simp only [m1D] at hf <;> try (cases hf; done)
    cases hf
    have := rd.str; subst this
    have := re.str; subst this
    exact mt_endswith pins s σ H _ _ v us Q I rx rs ⟨_, _, rfl, rfl, fin.flat sm (.bl _)⟩
  | split =>
    cases d <;> cases e <;> simp only [m1D] at hf <;> try (cases hf; done)
    split at hf <;> cases hf
    rename_i hz
    have := rd.str; subst this
    have := re.str; subst this
    exact mt_splitN pins s σ H _ _ v us Q I rx rs ⟨G, _, _, sm, rfl, rfl, hz.1, hz.2, New.still fin⟩
  | index =>
    cases d <;> cases e <;> simp only [m1D] at hf <;> try (cases hf; done)
    split at hf <;> cases hf
    rename_i k rest hk
    have := rd.str; subst this
    have := re.str; subst this
    obtain ⟨t, rfl⟩ := rx
    obtain ⟨u, rfl, ru⟩ := Vals.one rs
    obtain ⟨t2, rfl⟩ := ru
    exact call_gives PySem.F.slot_str_index (typeIs_str _ _ _) PySem.F.entry_str_index
      (PySem.F.args_str_index_2 _ _) (gives_str_index _ _ t t2 k rest hk) ⟨.int (k : Nat), H, I.tok _, ⟨_, rfl⟩, fin.flat sm (.int _)⟩
  | rstrip =>
    cases d <;> cases e <;> simp only [m1D] at hf <;> try (cases hf; done)
    split at hf <;> cases hf
    rename_i hz
    have := rd.str; subst this
    have := re.str; subst this
    exact mt_rstripChars pins s σ H _ _ v us Q I rx rs ⟨_, _, rfl, rfl, le_line hz, fin.flat sm (.str _)⟩
  | find =>
    cases d <;> cases e <;> simp only [m1D] at hf <;> try (cases hf; done)
    cases hf
    have := rd.str; subst this
    have := re.str; subst this
    exact mt_find pins s σ H _ _ v us Q I rx rs ⟨_, _, rfl, rfl, fin.flat sm (.int _)⟩
  | join =>
    have go : ∀ (a : Str) (ds : List Dat) (vs : List V) (p : Addr), joinD a ds = .ok r → x = .str a → y = .ref p → Reps X.K G vs ds → (SqL X.K H p vs ∨ SqT X.K H p vs) → wpAny (model X.prog X.w) X.A (call (.builtin "str.join") (v :: us)) (EP X pins σ Q) X.xe s := by
      intro a ds vs p hj ex ey rr hq
      subst ex ey
      unfold joinD at hj
      split at hj
      · rename_i ys hys
        split at hj <;> cases hj
        rename_i hz
        have e1 := strsD_some hys
        subst e1
        have e2 := rr.strs_inv
        subst e2
        exact mt_join pins s σ H _ _ v us Q I rx rs ⟨a, p, ys, rfl, rfl, hq, by omega, fin.flat sm (.str _)⟩
      · cases hj
    cases d <;> cases e <;> simp only [m1D] at hf <;> try (cases hf; done)
    · have ex := rd.str
      obtain ⟨p, vs, ey, q, rr⟩ := re.list sm
      exact go _ _ vs p hf ex ey rr (.inl q)
    · have ex := rd.str
      obtain ⟨p, vs, ey, q, rr⟩ := re.tup sm
      exact go _ _ vs p hf ex ey rr (.inr (sqT_keep sm q))
end
end NW
end

section
set_option maxHeartbeats 4000000
/-! The text against its terms; each term's reading holds of the text. -/
namespace NW
open PySem PySem.Spec PyProof.Rows L2

/-! ### the look at the text -/
structure Sig where
  nm : Str
  ln : List Bool
  /-- 0: a value that stays; 2: a list of the caller's own; 3: a value whose parts that are lists are new -/
  fr : Nat
  /-- the last parameter's name, where it is told by a keyword -/
  kw : Option Str
  /-- what it raises has no context -/
  cl : Bool
structure Tx where
  fns : List Sig
  cons : List Str
  exs : List Str
  /-- classes made with a row -/
  exr : List Str
  /-- what the def at hand raises has no context -/
  cl : Bool
def Tx.at_ (T : Tx) (b : Bool) : Tx := { T with cl := b }
def plainE : Expr → Bool
  | .Starred _ _ => false
  | .Set _ _ _ => false
  | .Slice _ _ _ _ => false
  | _ => true
/-- the receiver of a method -/
def baseE : Expr → Bool
  | .Call _ [] _ _ => false
  | _ => true
/-- whose truth is its value's -/
def tstE : Expr → Bool
  | .UnaryOp _ _ _ => false
  | .BoolOp _ _ _ => false
  | .IfExp _ _ _ _ => false
  | .Compare _ _ _ _ => false
  | _ => true
def visB (sc : Scope) (x : Str) : Bool := match sc.names.lookup x with
  | some .local => true
  | some .cell => true
  | some .free => true
  | _ => false
def locB (sc : Scope) (x : Str) : Bool := decide (sc.names.lookup x = some .local)
def glB (sc : Scope) (x : Str) : Bool := decide (sc.names.lookup x = some .globalImplicit)
def okN (x : Str) : Bool := !(x == ("__debug__" : Str)) && !(x == ("__classdict__" : Str)) && !(x == ("__name__" : Str))
def isTv : E → Bool
  | .tv _ => true
  | _ => false
def isNo : E → Bool
  | .no => true
  | _ => false
/-- what kind of value a term gives: 0 one that stays, 1 a lent one, 2 a new list -/
def kd (T : Tx) : E → Nat
  | .tv _ => 1
  | .lst _ => 2
  | .lc _ _ _ _ _ => 2
  | .bi .list _ => 2
  | .bi .sorted _ => 2
  | .m1 .split _ _ => 2
  | .cal k _ => match T.fns[k]? with
    | some sg => sg.fr
    | none => 0
  | _ => 0
/-- no test: True -/
def tyes : E → Bool
  | .bl b => b
  | _ => false
def isIfe : E → Bool
  | .ife _ _ _ => true
  | _ => false
/-- a target -/
def okG (N : List Str) (sc : Scope) : Tg → Expr → Bool
  | .nm i, .Name x _ => decide (N[i]? = some x) && locB sc x
  | .tp is, .Tuple es _ _ => decide (is.length = es.length) && (is.zip es).all fun p => match p.2 with
    | .Name x _ => decide (N[p.1]? = some x) && locB sc x
    | _ => false
  | _, _ => false
def bop (o : BoolOp) : Bool := match o with
  | .And => true
  | .Or => false
def tgIn (own : List Nat) : Tg → Bool
  | .nm i => own.contains i
  | .tp is => is.all own.contains
mutual
def okE (T : Tx) (n : Nat) (N : List Str) (sc : Scope) : E → Expr → Bool
  | .var i, .Name x _ => decide (N[i]? = some x) && visB sc x && okN x
  | .tv i, .Name x _ => decide (N[i]? = some x) && visB sc x && okN x
  | .non, .Constant .none _ _ => true
  | .bl b, .Constant (.bool c) _ _ => b == c
  | .int i, .Constant (.int j) _ _ => i == j
  | .str x, .Constant (.str y) _ _ => decide (x = y)
  | .con k, .Name x _ => decide (T.cons[k]? = some x) && glB sc x && okN x
  | .bin o a b, .BinOp x op y _ => decide (op = opB o) && okE T n N sc a x && okE T n N sc b y
  | .neg a, .UnaryOp .USub x _ => okE T n N sc a x
  | .cmp o a b, .Compare x [op] [y] _ => decide (op = opC o) && plainE y && okE T n N sc a x && okE T n N sc b y
  | .chn o p a b c, .Compare x [op, op'] [y, z] _ => decide (op = opC o) && decide (op' = opC p) && plainE z && okE T n N sc a x && okE T n N sc b y && okE T n N sc c z
  | .and a b, .BoolOp .And (x :: y :: r) pos => !isIfe a && !isIfe b && kd T a != 1 && kd T b != 1 && okE T n N sc a x && (match r with
    | [] => okE T n N sc b y
    | r => okE T n N sc b (.BoolOp .And (y :: r) pos))
  | .or a b, .BoolOp .Or (x :: y :: r) pos => !isIfe a && !isIfe b && kd T a != 1 && kd T b != 1 && okE T n N sc a x && (match r with
    | [] => okE T n N sc b y
    | r => okE T n N sc b (.BoolOp .Or (y :: r) pos))
  | .not a, .UnaryOp .Not x _ => !isIfe a && okE T n N sc a x
  | .ife c a b, .IfExp z x y _ => !isIfe c && okE T n N sc c z && okE T n N sc a x && okE T n N sc b y && kd T a != 1 && kd T b != 1
  | .ix a i, .Subscript x y _ => plainE y && okE T n N sc a x && okE T n N sc i y
  | .sl a lo hi, .Subscript x (.Slice l h .none _) _ => okE T n N sc a x && (match l with
      | none => isNo lo
      | some l => !isNo lo && okE T n N sc lo l) && (match h with
      | none => isNo hi
      | some h => !isNo hi && okE T n N sc hi h)
  | .tup es, .Tuple xs _ _ => okEs T n N sc [] es xs
  | .lst es, .List xs _ => okEs T n N sc [] es xs
  | .cal k es, .Call (.Name x _) (y :: ys) [] _ => (match T.fns[k]? with
    | some sg => decide (sg.nm = x) && decide (k < n) && glB sc x && okN x && decide (sg.ln.length = (y :: ys).length) && decide (sg.kw = none) && (!T.cl || sg.cl) && okEs T n N sc sg.ln es (y :: ys)
    | none => false)
  | .calk k es w e, .Call (.Name x _) (y :: ys) [⟨a, z, _⟩] _ => (match T.fns[k]? with
    | some sg => decide (sg.nm = x) && decide (k < n) && glB sc x && okN x && decide (sg.ln.length = (y :: ys).length + 1) && decide (sg.kw = some w) && decide (a = some w) && (sg.fr == 0) && (!T.cl || sg.cl) && okEs T n N sc [] es (y :: ys) && plainE z && okE T n N sc e z && kd T e != 1
    | none => false)
  | .bi f es, .Call (.Name x _) (y :: ys) [] _ => decide (nmB f = x) && glB sc x && okN x && okEs T n N sc [true, true] es (y :: ys)
  | .isi t e, .Call (.Name f _) [x, .Name y _] [] _ => decide (f = ("isinstance" : Str)) && decide (y = PySem.Str.ofString (nmT t)) && glB sc f && glB sc y && okN y && plainE x && okE T n N sc e x
  | .nrw c e, .Attribute (.Call (.Name x _) [y] [] _) a _ => decide (x = c) && decide (a = ("row" : Str)) && glB sc c && okN c && T.exr.contains c && decide (2 ≤ n) && plainE y && (kd T e != 1) && okE T n N sc e y
  | .m0 m o, .Call (.Attribute x f apos) [] [] pos => decide (f = nm0 m) && baseE x && (apos.endLine == pos.line) && okE T n N sc o x
  | .m1 m o a, .Call (.Attribute x f apos) [y] [] pos => decide (f = nm1 m) && baseE x && plainE y && (apos.endLine == pos.line) && okE T n N sc o x && okE T n N sc a y
  | .dc0, .Dict [] [] _ => true
  | .dc1 k e, .Dict [some x] [y] _ => okE T n N sc k x && okE T n N sc e y && (kd T e != 1)
  | .dget o k e, .Call (.Attribute x f apos) [y, z] [] pos => decide (f = ("get" : Str)) && baseE x && plainE y && plainE z && (apos.endLine == pos.line) && okE T n N sc o x && okE T n N sc k y && okE T n N sc e z && (kd T e != 1) && (kd T o != 1)
  | .lc own tg it tt elt, .ListComp x [⟨g, y, ifs, asy⟩] scope _ => decide (asy = 0) && blkC N sc scope (own.map fun i => (N.getD i "", i)) && tgIn own tg && plainE y && okI T n N sc it y && okG N (relS scope sc) tg g && kd T elt != 1 &&
      (match ifs with
      | [] => tyes tt
      | [c] => !isIfe tt && okE T n N (relS scope sc) tt c
      | _ => false) && okE T n N (relS scope sc) elt x
  | _, _ => false
def okEs (T : Tx) (n : Nat) (N : List Str) (sc : Scope) : List Bool → Es → List Expr → Bool
  | _, .nil, [] => true
  | ws, .cons e r, x :: xs => plainE x && okE T n N sc e x && (kd T e != 1 || ws.headD false) && okEs T n N sc ws.tail r xs
  | _, _, _ => false
def okI (T : Tx) (n : Nat) (N : List Str) (sc : Scope) : It → Expr → Bool
  | .seq e, x => okE T n N sc e x && kd T e != 1
  | .lent i, .Name x _ => decide (N[i]? = some x) && visB sc x && okN x
  | .own i, .Name x _ => decide (N[i]? = some x) && visB sc x && okN x
  | .rng1 a, .Call (.Name f _) [x] [] _ => decide (f = ("range" : Str)) && glB sc f && plainE x && okE T n N sc a x
  | .rng2 a b, .Call (.Name f _) [x, y] [] _ => decide (f = ("range" : Str)) && glB sc f && plainE x && plainE y && okE T n N sc a x && okE T n N sc b y
  | _, _ => false
end

/-! ### readings -/
/-- a slot's thing: B what stood from the start, H all, G what stays as it is -/
def SlR (K : PySem.W.Frag) (B H G : Hp) : Sl → Option V → Prop
  | .un, _ => True
  | .fz d, o => ∃ v, o = some v ∧ Rep K G v d
  | .ow ds, o => ∃ a vs, o = some (.ref a) ∧ H a = some (.lst vs) ∧ G a = none ∧ Reps K G vs ds
  | .ln ds, o => ∃ a vs, o = some (.ref a) ∧ SqL K B a vs ∧ Reps K G vs ds
  | .ex a dx _ x, o => o = some (.ref a) ∧ (match x with
    | none => dx = none
    | some d => ∃ b v, dx = some b ∧ H b = some (.xd [(("row" : Str), v)]) ∧ Rep K G v d)
structure ER (K : PySem.W.Frag) (B : Hp) (ρ : En) (σ : L2.St) (H G : Hp) : Prop where
  bas : Same B H
  sub : Same G H
  len : ρ.length = σ.length
  at_ : ∀ (i : Nat) (s : Sl), ρ[i]? = some s → ∃ o, σ[i]? = some o ∧ SlR K B H G s o
theorem SlR.ext {K : PySem.W.Frag} {B H G H' G' : Hp} (x : Ext H G H' G') {s : Sl} {o : Option V} (r : SlR K B H G s o) : SlR K B H' G' s o := by
  cases s with
  | un => trivial
  | fz d => obtain ⟨v, e, r⟩ := r; exact ⟨v, e, r.mono x.stl⟩
  | ow ds =>
    obtain ⟨a, vs, e, h, g, r⟩ := r
    refine ⟨a, vs, e, x.all _ _ h, ?_, r.mono x.stl⟩
    cases q : G' a with
    | none => rfl
    | some o =>
      rcases x.new a (by rw [q]; simp) with z | z
      · exact absurd g z
      · rw [z] at h; cases h
  | ln ds => obtain ⟨a, vs, e, h, r⟩ := r; exact ⟨a, vs, e, h, r.mono x.stl⟩
  | ex a dx c y =>
    obtain ⟨e, r⟩ := r
    refine ⟨e, ?_⟩
    cases y with
    | none => exact r
    | some d => obtain ⟨b, v, e1, e2, e3⟩ := r; exact ⟨b, v, e1, x.all _ _ e2, e3.mono x.stl⟩
theorem ER.ext {K : PySem.W.Frag} {B : Hp} {ρ : En} {σ : L2.St} {H G H' G' : Hp} (e : ER K B ρ σ H G) (x : Ext H G H' G') : ER K B ρ σ H' G' :=
  ⟨e.bas.trans x.all, x.sub, e.len, fun i s h => let ⟨o, h1, h2⟩ := e.at_ i s h; ⟨o, h1, h2.ext x⟩⟩
/-- an exception: its class by its name, what it holds -/
def XR (K : PySem.W.Frag) (mg : Str → Option Value) (H G : Hp) (cls : Value) (dx : Option Addr) (c : Str) (x : Option Dat) : Prop :=
  (∃ C, mg c = some (.ref C) ∧ cls = .ref C) ∧ (match x with
    | none => dx = none
    | some d => ∃ a v, dx = some a ∧ H a = some (.xd [(("row" : Str), v)]) ∧ Rep K G v d)
/-- a list that is new since H -/
def FreshL (K : PySem.W.Frag) (H G' : Hp) (v : V) (d : Dat) : Prop := ∀ ds, d = .list ds → ∃ a vs, v = .ref a ∧ H a = none ∧ G' a = some (.lst vs) ∧ Reps K G' vs ds
/-- a tuple whose parts that are lists are new since H -/
def FreshC (K : PySem.W.Frag) (H G' : Hp) (v : V) (d : Dat) : Prop := ∀ ds, d = .tuple ds → ∃ t vs, v = .ref t ∧ SqT K G' t vs ∧ Reps K G' vs ds ∧ ∀ (i : Nat) (u : V) (e : Dat), vs[i]? = some u → ds[i]? = some e → FreshL K H G' u e
def RK (K : PySem.W.Frag) (k : Nat) (H H' G' : Hp) (v : V) (d : Dat) : Prop := match k with
  | 0 => Rep K G' v d
  | 1 => RW K H' G' v d
  | 2 => ∃ a vs ds, v = .ref a ∧ d = .list ds ∧ H a = none ∧ G' a = none ∧ H' a = some (.lst vs) ∧ Reps K G' vs ds
  | _ => Rep K G' v d ∧ FreshC K H G' v d
def EndE (X : Cx) (W : WX) (k : Nat) (σ : L2.St) (H G : Hp) (Q : VK) : Res Dat → Prop
  | .ok d => ∀ v H' G', Ext H G H' G' → RK X.K k H H' G' v d → Q v H'
  | .exc c x => ∀ cls dx H' G', Ext H G H' G' → XR X.K X.mg H' G' cls dx c x → W cls dx σ H'
  | .bad => False
def tK (X : Cx) (P : Pg) (W : WX) (k : Nat) (e : E) : TE := fun σ H Q => ∃ B G ρ, ER X.K B ρ σ H G ∧ EndE X W k σ H G Q (ev P e ρ)
def EndT (X : Cx) (W : WX) (σ : L2.St) (H G : Hp) (Q : Bool → Hp → Prop) : Res Bool → Prop
  | .ok b => ∀ H' G', Ext H G H' G' → Q b H'
  | .exc c x => ∀ cls dx H' G', Ext H G H' G' → XR X.K X.mg H' G' cls dx c x → W cls dx σ H'
  | .bad => False
def tT (X : Cx) (P : Pg) (W : WX) (e : E) : TT := fun σ H Q => ∃ B G ρ, ER X.K B ρ σ H G ∧ EndT X W σ H G Q (ev P e ρ >>= fun d => truD d)
/-- arguments: lent where told -/
inductive RAs (K : PySem.W.Frag) (H G : Hp) : List Bool → List V → List Dat → Prop
  | nil {ws : List Bool} : RAs K H G ws [] []
  | cons {ws : List Bool} {v : V} {vs : List V} {d : Dat} {ds : List Dat} : (if ws.headD false = true then RW K H G v d else Rep K G v d) → RAs K H G ws.tail vs ds → RAs K H G ws (v :: vs) (d :: ds)
def EndA (X : Cx) (W : WX) (ws : List Bool) (σ : L2.St) (H G : Hp) (Q : List V → Hp → Prop) : Res (List Dat) → Prop
  | .ok ds => ∀ vs H' G', Ext H G H' G' → RAs X.K H' G' ws vs ds → Q vs H'
  | .exc c x => ∀ cls dx H' G', Ext H G H' G' → XR X.K X.mg H' G' cls dx c x → W cls dx σ H'
  | .bad => False
def tA (X : Cx) (P : Pg) (W : WX) (ws : List Bool) (es : Es) : TA := fun σ H Q => ∃ B G ρ, ER X.K B ρ σ H G ∧ EndA X W ws σ H G Q (evs P es ρ)
/-- what a walk yields: xs, whatever comes to what stands -/
structure Ylds (K : PySem.W.Frag) (B G0 : Hp) (J : L2.It) (xs : List Dat) : Prop where
  go : ∀ (i : Nat) (H G : Hp), i < xs.length → Same B H → Same G0 G → Same G H → J.go i H
  stop : ∀ (H G : Hp), Same B H → Same G0 G → Same G H → J.stop xs.length H
  yld : ∀ (i : Nat) (H G : Hp) (x : V) (H' : Hp), i < xs.length → Same B H → Same G0 G → Same G H → J.yld i H x H' → ∃ d G', xs[i]? = some d ∧ Ext H G H' G' ∧ Rep K G' x d
def EndI (X : Cx) (W : WX) (B : Hp) (σ : L2.St) (H G : Hp) (R : L2.It → Hp → Prop) : Res (List Dat) → Prop
  | .ok xs => ∀ J H' G', Ext H G H' G' → Ylds X.K B G' J xs → R J H'
  | .exc c x => ∀ cls dx H' G', Ext H G H' G' → XR X.K X.mg H' G' cls dx c x → W cls dx σ H'
  | .bad => False
def isOwn : It → Bool
  | .own _ => true
  | _ => false
/-- what an iterable's things stand on -/
def bI (it : It) (B H : Hp) : Hp := match it with
  | .own _ => H
  | _ => B
theorem bI_no {it : It} (h : isOwn it = false) (B H : Hp) : bI it B H = B := by cases it <;> first | rfl | cases h
theorem bI_self (it : It) (H : Hp) : bI it H H = H := by cases it <;> rfl
def tI (X : Cx) (P : Pg) (W : WX) (it : It) : TI := fun σ H R => ∃ B G ρ, ER X.K B ρ σ H G ∧ EndI X W (bI it B H) σ H G R (evI P it ρ)
/-- .. on all that stands now -/
theorem ER.re {K : PySem.W.Frag} {B : Hp} {ρ : En} {σ : L2.St} {H G : Hp} (e : ER K B ρ σ H G) : ER K H ρ σ H G :=
  ⟨Same.refl H, e.sub, e.len, fun i s h => by
    obtain ⟨o, h1, h2⟩ := e.at_ i s h
    refine ⟨o, h1, ?_⟩
    cases s with
    | ln ds => obtain ⟨a, vs, e1, e2, e3⟩ := h2; exact ⟨a, vs, e1, sqL_keep e.bas e2, e3⟩
    | un => exact h2
    | fz d => exact h2
    | ow ds => exact h2
    | ex a dx c y => exact h2⟩
theorem RK.weak {K : PySem.W.Frag} {k : Nat} {H H' G' : Hp} {v : V} {d : Dat} (r : RK K k H H' G' v d) : RW K H' G' v d := by
  match k, r with
  | 0, r => exact .st r
  | 1, r => exact r
  | 2, ⟨a, vs, ds, e1, e2, _, _, h, q⟩ => subst e1; subst e2; exact .wk (SqL.of h) q
  | k + 3, r => exact .st r.1
theorem PE.imp {X : Cx} {e : Expr} {t t' : TE} (h : PE X e t) (i : ∀ σ H Q, t' σ H Q → t σ H Q) : PE X e t' := ⟨fun pins s σ H Q I q => h.run pins s σ H Q I (i σ H Q q)⟩
theorem PT.imp {X : Cx} {e : Expr} {t t' : TT} (h : PT X e t) (i : ∀ σ H Q, t' σ H Q → t σ H Q) : PT X e t' := ⟨fun pins s σ H Q I q => h.run pins s σ H Q I (i σ H Q q)⟩
theorem PW.imp {X : Cx} {e : Expr} {t t' : TT} (h : PW X e t) (i : ∀ σ H Q, t' σ H Q → t σ H Q) : PW X e t' := ⟨fun w pins s σ H Q I q => h.run w pins s σ H Q I (i σ H Q q)⟩
theorem PA.imp {X : Cx} {e : List Expr} {t t' : TA} (h : PA X e t) (i : ∀ σ H Q, t' σ H Q → t σ H Q) : PA X e t' := ⟨fun pos pins s σ H Q I q => h.run pos pins s σ H Q I (i σ H Q q)⟩
theorem Fin.of {X : Cx} {W : WX} {σ : L2.St} {H G : Hp} {Q : VK} {d : Dat} (h : EndE X W 0 σ H G Q (.ok d)) : Fin X.K H G Q d := h
/-- what a term gives may be read -/
theorem tK_weak {X : Cx} {P : Pg} {W : WX} {k : Nat} {e : E} {σ : L2.St} {H : Hp} {Q : VK} (h : tK X P W 1 e σ H Q) : tK X P W k e σ H Q := by
  obtain ⟨B, G, ρ, er, h⟩ := h
  refine ⟨B, G, ρ, er, ?_⟩
  cases q : ev P e ρ with
  | ok d => rw [q] at h; exact fun v H' G' x r => h v H' G' x r.weak
  | exc c x => rw [q] at h; exact h
  | bad => rw [q] at h; exact h
/-- .. and kept, where it is not lent -/
theorem tK_still {X : Cx} {P : Pg} {W : WX} {k : Nat} {e : E} (hk : k ≠ 1) {σ : L2.St} {H : Hp} {Q : VK} (h : tK X P W 0 e σ H Q) : tK X P W k e σ H Q := by
  obtain ⟨B, G, ρ, er, h⟩ := h
  refine ⟨B, G, ρ, er, ?_⟩
  cases q : ev P e ρ with
  | ok d =>
    rw [q] at h
    match k, hk with
    | 0, _ => exact h
    | 2, _ =>
      intro v H' G' x r
      obtain ⟨a, vs, ds, rfl, rfl, na, ga, ha, rr⟩ := r
      exact New.still (Fin.of h) a vs H' G' x na ga ha rr
    | k + 3, _ => exact fun v H' G' x r => h v H' G' x r.1
  | exc c x => rw [q] at h; exact h
  | bad => rw [q] at h; exact h

/-! ### what the context knows -/
/-- a def's promise, by its meaning over data -/
def spD (K : PySem.W.Frag) (mg : Str → Option Value) (sg : Sig) (F : List Dat → Res Dat) : Sp := fun vs H Q E => ∃ G ds, Same G H ∧ vs.length = sg.ln.length ∧ RAs K H G sg.ln vs ds ∧ (match F ds with
  | .ok d => ∀ v H' G', Ext H G H' G' → RK K sg.fr H H' G' v d → Q v H'
  | .exc c x => ∀ cls dx H' G', Ext H G H' G' → XR K mg H' G' cls dx c x → E cls dx H'
  | .bad => False)
def bltN : List Str := ["len", "min", "max", "int", "str", "ord", "tuple", "list", "isinstance", "bool", "range", "any", "all", "sorted"]
/-- what an exception in the air may be -/
def TkB (b : Bool) (X : Cx) (W : WX) : Prop := if b = true then L2N.Takes X W else Takes X W
def CXB (b : Bool) (P : Program) (w : World) : CXT := if b = true then L2N.CX P w else L2.CX P w
theorem sky_weak {B : Heap} {l : List Env} {a L : Addr} {Z Z' : Obj → Prop} {h : Heap} (z : ∀ o, Z o → Z' o) (s : Sky B l a Z L h) : Sky B l a Z' L h := by
  rcases s with ⟨h1, h2, h3, oe, vs, h4, h5, h6⟩ | s | s
  · exact .inl ⟨h1, h2, h3, oe, vs, h4, z _ h5, h6⟩
  · exact .inr (.inl (L2H.flyingZ_imp z s))
  · exact .inr (.inr ⟨s.1, s.2.1, s.2.2.1, L2H.tracedZ_imp z s.2.2.2⟩)
theorem takesN {X : Cx} {W : WX} (tk : Takes X W) : L2N.Takes X W := fun u s' ⟨a, B, sI, pins, σ, H, cls, d, e, I, nb, up, sky, na, os, ag, w⟩ =>
  tk u s' ⟨a, B, sI, pins, σ, H, cls, d, e, I, nb, up, sky_weak (fun _ z => z.zc) sky, na, os, ag, w⟩
theorem tkb0 (b : Bool) {X : Cx} : TkB b X (fun _ _ _ _ => False) := by
  cases b
  · exact takes0
  · exact takesN takes0
theorem passB {b c : Bool} {X : Cx} {W : WX} (tk : TkB b X W) (h : (!b || c) = true) (σ : L2.St) : PassesAt (CXB c X.prog X.w) X σ (WE W σ) := by
  cases c
  · cases b
    · exact passAt tk σ
    · cases h
  · cases b
    · exact L2N.passAt (takesN tk) σ
    · exact L2N.passAt tk σ
/-- __init__(self, row): self.row = row -/
def spInit (K : PySem.W.Frag) : Sp := fun vs H Q _ => ∃ (a C : Addr) (v : V), vs = [.ref a, v] ∧ OexC K C ∧ PySem.W.findIn K (.ref C) "row" = some none ∧ H a = some (exo a C none) ∧
  ∀ dx, H dx = none → dx ≠ a → Q .non (upd (upd H dx (exd dx [(("row" : Str), v)])) a (exo a C (some dx)))
/-- a class that is made with a row -/
def RwK (P : Program) (w_ : World) (K : PySem.W.Frag) (mg : Str → Option Value) (base : Heap) (C : Addr) : Prop := ∃ (fI : Addr) (fd : FuncData), OexC K C ∧ PySem.W.findIn K (.ref C) "row" = some none ∧
  PySem.W.findIn K (.ref C) "__init__" = some (some (.ref fI)) ∧ PySem.W.typeIn K (.ref fI) = some (.type "function") ∧ FnOk P w_ K mg base (L2.CX P w_) 1 fI fd ["self", "row"] (spInit K) ∧
  L2H.FnH P w_ K mg base (L2.CX P w_) 1 fI fd ["self", "row"] (spInit K) ∧ Binds K fd ["self", "row"] [] ∧ XfC K C
/-- a def that may be called as sg tells; what lacks stands in its defaults -/
def FnX (P : Program) (w_ : World) (K : PySem.W.Frag) (mg : Str → Option Value) (base : Heap) (n : Nat) (sg : Sig) (F : List Dat → Res Dat) : Prop :=
  match sg.kw with
  | none => ∃ (f : Addr) (fd : FuncData) (ps : List Str) (ds : List Value) (dvs : List V) (sp : Sp), mg sg.nm = some (.ref f) ∧ PySem.W.keepIn K (.ref f) = true ∧ FnOk P w_ K mg base (CXB sg.cl P w_) n f fd ps sp ∧ Binds K fd ps ds ∧ Vals dvs ds ∧ ∀ vs H Q E, spD K mg sg F vs H Q E → sp (vs ++ dvs) H Q E
  | some w => ∃ (f : Addr) (fd : FuncData) (ps : List Str) (g : List Value → List Value → List Value) (gV : List V → List V → List V) (sp : Sp), mg sg.nm = some (.ref f) ∧ PySem.W.keepIn K (.ref f) = true ∧ FnOk P w_ K mg base (CXB sg.cl P w_) n f fd ps sp ∧ KBn K fd ps (sg.ln.length - 1) [w] g gV ∧ sg.ln = List.replicate sg.ln.length false ∧
      ∀ vs z H Q E, spD K mg sg F (vs ++ [z]) H Q E → sp (gV vs [z]) H Q E
/-- a class of one's own under ValueError, without an __init__ of its own -/
structure ExK (K : PySem.W.Frag) (C : Addr) : Prop where
  exc : PySem.W.excIn K C He.veBase "ValueError.__new__" = true
  keep : PySem.W.keepIn K (.ref C) = true
  sub : PySem.W.subIn K (.ref C) (.type "BaseException") = some true
  ty : PySem.W.typeIn K (.ref C) = some (.type "type")
/-- what isinstance says of an exception of class c -/
def IssK (K : PySem.W.Frag) (mg : Str → Option Value) (c c' : Str) (b : Bool) : Prop := ∃ C, mg c = some (.ref C) ∧ ExcC K C ∧ PySem.W.findIn K (.ref C) "row" = some none ∧
  ((∃ C', mg c' = some (.ref C') ∧ PySem.W.kitOne K (.ref C) (.ref C') = some b) ∨ (c' = "ValueError" ∧ mg c' = none ∧ PySem.W.kitOne K (.ref C) (.type "ValueError") = some b))
structure Gd (X : Cx) (T : Tx) (P : Pg) (n : Nat) (W : WX) : Prop where
  calm : X.calm = true
  nd : X.N.Nodup
  room : Room n X.A
  tk : TkB T.cl X W
  fns : ∀ k sg, k < n → T.fns[k]? = some sg → FnX X.prog X.w X.K X.mg X.base n sg (P.F k)
  cons : ∀ k x, T.cons[k]? = some x → ∃ u v, X.mg x = some u ∧ RelV v u ∧ ∀ G, Rep X.K G v (P.C k)
  blt : ∀ b ∈ bltN, X.mg b = none
  exs : ∀ c ∈ T.exs, ∃ C, X.mg c = some (.ref C) ∧ ExK X.K C
  exm : ∀ c c' b, P.X c c' = some b → ∃ C C', X.mg c = some (.ref C) ∧ X.mg c' = some (.ref C') ∧ PySem.W.exmOne X.K (.ref C) (.ref C') = some b
  iss : ∀ c c' b, P.I c c' = some b → IssK X.K X.mg c c' b
  exr : ∀ c ∈ T.exr, ∃ C, X.mg c = some (.ref C) ∧ RwK X.prog X.w X.K X.mg X.base C
/-- .. within a comprehension -/
theorem Gd.blk {X : Cx} {T : Tx} {P : Pg} {n : Nat} {W : WX} (g : Gd X T P n W) (s : Shared) (H : Hp) (scope : Scope) (cenv : Env) (fp : List Addr) : Gd (X.blk s H scope cenv fp) T P n (fun _ _ _ _ => False) :=
  ⟨g.calm, g.nd, g.room, tkb0 _, g.fns, g.cons, g.blt, g.exs, g.exm, g.iss, g.exr⟩
theorem vis_of {X : Cx} {x : Str} (h : visB X.env.scope x = true) : Vis X.env.scope x := by
  unfold visB at h
  split at h
  · rename_i e; exact .inl e
  · rename_i e; exact .inr (.inl e)
  · rename_i e; exact .inr (.inr e)
  · cases h
theorem okN_d {x : Str} (h : okN x = true) : (x == ("__debug__" : Str)) = false := by
  unfold okN at h
  simp only [Bool.and_eq_true, Bool.not_eq_true'] at h
  exact h.1.1
theorem okN_c {x : Str} (h : okN x = true) : (x == ("__classdict__" : Str)) = false := by
  unfold okN at h
  simp only [Bool.and_eq_true, Bool.not_eq_true'] at h
  exact h.1.2
theorem okN_n {x : Str} (h : okN x = true) : x ≠ "__name__" := by
  unfold okN at h
  simp only [Bool.and_eq_true, Bool.not_eq_true'] at h
  intro e
  have := h.2
  rw [e] at this
  simp at this
theorem star_cons {x : Expr} {xs : List Expr} {env : Env} (h : plainE x = true) : starEach (x :: xs) env = (false, eval x env) :: starEach xs env := by
  cases x <;> first | rfl | (simp [plainE] at h)
/-- a list of plain ones -/
def plains (xs : List Expr) : Bool := xs.all plainE
theorem no_star {env : Env} {pos : Pos} : ∀ {xs : List Expr}, plains xs = true → (backTo pos (starEach xs env)).any (·.1) = false
  | [], _ => rfl
  | x :: xs, h => by
    unfold plains at h
    rw [List.all_cons, Bool.and_eq_true] at h
    rw [star_cons h.1]
    show (false || (backTo pos (starEach xs env)).any (·.1)) = false
    rw [no_star (xs := xs) h.2]
    rfl
theorem okEs_plain {T : Tx} {n : Nat} {N : List Str} {sc : Scope} : ∀ {es : Es} {ws : List Bool} {xs : List Expr}, okEs T n N sc ws es xs = true → plains xs = true
  | .nil, _, [], _ => rfl
  | .nil, _, _ :: _, h => by simp [okEs] at h
  | .cons e r, _, [], h => by simp [okEs] at h
  | .cons e r, ws, x :: xs, h => by
    simp only [okEs, Bool.and_eq_true] at h
    show (plainE x && xs.all plainE) = true
    rw [h.1.1.1, Bool.true_and]
    exact okEs_plain (es := r) h.2
theorem plain_ix {b : Expr} (h : plainE b = true) : PlainIx b := fun o i => by cases b <;> first | rfl | (simp [plainE] at h)
theorem plain_mark {b : Expr} {op : CmpOp} (h : plainE b = true) : behindInMarks op b = false := by cases b <;> first | rfl | (simp [plainE] at h)
theorem plain_fold {b : Expr} {env : Env} (h : plainE b = true) : ∀ x, foldedSetIterable b env x = pure x := fun x => by cases b <;> first | rfl | (simp [plainE] at h)
theorem base_attr {o : Expr} {f : Str} {env : Env} (h : baseE o = true) : attributeBase o f env (eval o env) = eval o env := by
  cases o <;> first | rfl | skip
  rename_i fn args kws pos
  cases args with
  | nil => simp [baseE] at h
  | cons a r => cases fn <;> rfl
theorem tst_true {a : Expr} {env : Env} (h : tstE a = true) : ∀ whole, isTrue a env whole = (do let v ← whole; standAt a.pos; holding [v] (truthy v)) := fun whole => by
  cases a <;> first | rfl | (simp [tstE] at h)
end NW
end

section
set_option maxHeartbeats 4000000
/-! The terms' readings hold of the text that passes the look. -/
namespace NW
open PySem PySem.Spec PyProof.Rows L2

theorem getS_some {ρ : En} {i : Nat} {s : Sl} (h : getS ρ i = s) (n : s ≠ .un) : ρ[i]? = some s := by
  unfold getS at h
  rw [List.getD_eq_getElem?_getD] at h
  cases q : ρ[i]? with
  | none => rw [q] at h; exact absurd h.symm n
  | some z => rw [q] at h; simp at h; rw [h]
section
variable {X : Cx} {P : Pg} {W : WX} {σ : L2.St} {H G B : Hp} {ρ : En} {Q : VK} {k : Nat}
theorem RK.on {K : PySem.W.Frag} {H H1 H' G' : Hp} (s : Same H H1) {v : V} {d : Dat} (r : RK K k H1 H' G' v d) : RK K k H H' G' v d := by
  match k, r with
  | 0, r => exact r
  | 1, r => exact r
  | 2, ⟨a, vs, ds, e1, e2, na, q⟩ => exact ⟨a, vs, ds, e1, e2, s.free na, q⟩
  | k + 3, r =>
    refine ⟨r.1, fun ds e => ?_⟩
    obtain ⟨t, vs, e1, e2, e3⟩ := r.2 ds e
    refine ⟨t, vs, e1, e2, e3.1, fun i u w h1 h2 es he => ?_⟩
    obtain ⟨a, us, z1, z2, z3, z4⟩ := e3.2 i u w h1 h2 es he
    exact ⟨a, us, z1, s.free z2, z3, z4⟩
theorem EndE.on {H1 G1 : Hp} (x : Ext H G H1 G1) {r : Res Dat} (h : EndE X W k σ H G Q r) : EndE X W k σ H1 G1 Q r := by
  cases r with
  | ok d => exact fun v H' G' y q => h v H' G' (x.trans y) (q.on x.all)
  | exc c z => exact fun cls dx H' G' y q => h cls dx H' G' (x.trans y) q
  | bad => exact h
theorem EndT.on {H1 G1 : Hp} {Q : Bool → Hp → Prop} (x : Ext H G H1 G1) {r : Res Bool} (h : EndT X W σ H G Q r) : EndT X W σ H1 G1 Q r := by
  cases r with
  | ok d => exact fun H' G' y => h H' G' (x.trans y)
  | exc c z => exact fun cls dx H' G' y q => h cls dx H' G' (x.trans y) q
  | bad => exact h
theorem EndA.on {H1 G1 : Hp} {ws : List Bool} {Q : List V → Hp → Prop} (x : Ext H G H1 G1) {r : Res (List Dat)} (h : EndA X W ws σ H G Q r) : EndA X W ws σ H1 G1 Q r := by
  cases r with
  | ok d => exact fun v H' G' y q => h v H' G' (x.trans y) q
  | exc c z => exact fun cls dx H' G' y q => h cls dx H' G' (x.trans y) q
  | bad => exact h
theorem EndI.on {H1 G1 : Hp} {Q : L2.It → Hp → Prop} (x : Ext H G H1 G1) {r : Res (List Dat)} (h : EndI X W B σ H G Q r) : EndI X W B σ H1 G1 Q r := by
  cases r with
  | ok d => exact fun v H' G' y q => h v H' G' (x.trans y) q
  | exc c z => exact fun cls dx H' G' y q => h cls dx H' G' (x.trans y) q
  | bad => exact h
/-- a term, then what is done with its value -/
theorem bndE {a : E} {f : Dat → Res Dat} {j : Nat} {Q' : VK} (er : ER X.K B ρ σ H G) (h : EndE X W k σ H G Q (ev P a ρ >>= f))
    (c : ∀ d x H1 G1, Ext H G H1 G1 → RK X.K j H H1 G1 x d → ER X.K B ρ σ H1 G1 → EndE X W k σ H1 G1 Q (f d) → Q' x H1) : tK X P W j a σ H Q' := by
  refine ⟨B, G, ρ, er, ?_⟩
  cases q : ev P a ρ with
  | ok d => rw [q] at h; exact fun v H' G' x r => c d v H' G' x r (er.ext x) (h.on x)
  | exc z y => rw [q] at h; exact h
  | bad => rw [q] at h; exact h
theorem bndT {a : E} {f : Dat → Res Bool} {j : Nat} {Q : Bool → Hp → Prop} {Q' : VK} (er : ER X.K B ρ σ H G) (h : EndT X W σ H G Q (ev P a ρ >>= f))
    (c : ∀ d x H1 G1, Ext H G H1 G1 → RK X.K j H H1 G1 x d → ER X.K B ρ σ H1 G1 → EndT X W σ H1 G1 Q (f d) → Q' x H1) : tK X P W j a σ H Q' := by
  refine ⟨B, G, ρ, er, ?_⟩
  cases q : ev P a ρ with
  | ok d => rw [q] at h; exact fun v H' G' x r => c d v H' G' x r (er.ext x) (h.on x)
  | exc z y => rw [q] at h; exact h
  | bad => rw [q] at h; exact h
theorem bndA {a : E} {f : Dat → Res (List Dat)} {ws : List Bool} {j : Nat} {Q : List V → Hp → Prop} {Q' : VK} (er : ER X.K B ρ σ H G) (h : EndA X W ws σ H G Q (ev P a ρ >>= f))
    (c : ∀ d x H1 G1, Ext H G H1 G1 → RK X.K j H H1 G1 x d → ER X.K B ρ σ H1 G1 → EndA X W ws σ H1 G1 Q (f d) → Q' x H1) : tK X P W j a σ H Q' := by
  refine ⟨B, G, ρ, er, ?_⟩
  cases q : ev P a ρ with
  | ok d => rw [q] at h; exact fun v H' G' x r => c d v H' G' x r (er.ext x) (h.on x)
  | exc z y => rw [q] at h; exact h
  | bad => rw [q] at h; exact h
theorem bndI {a : E} {f : Dat → Res (List Dat)} {j : Nat} {Q : L2.It → Hp → Prop} {Q' : VK} (er : ER X.K B ρ σ H G) (h : EndI X W B σ H G Q (ev P a ρ >>= f))
    (c : ∀ d x H1 G1, Ext H G H1 G1 → RK X.K j H H1 G1 x d → ER X.K B ρ σ H1 G1 → EndI X W B σ H1 G1 Q (f d) → Q' x H1) : tK X P W j a σ H Q' := by
  refine ⟨B, G, ρ, er, ?_⟩
  cases q : ev P a ρ with
  | ok d => rw [q] at h; exact fun v H' G' x r => c d v H' G' x r (er.ext x) (h.on x)
  | exc z y => rw [q] at h; exact h
  | bad => rw [q] at h; exact h
/-- arguments, then -/
theorem bndAE {es : Es} {f : List Dat → Res Dat} {ws : List Bool} {Q' : List V → Hp → Prop} (er : ER X.K B ρ σ H G) (h : EndE X W k σ H G Q (evs P es ρ >>= f))
    (c : ∀ ds xs H1 G1, evs P es ρ = .ok ds → Ext H G H1 G1 → RAs X.K H1 G1 ws xs ds → ER X.K B ρ σ H1 G1 → EndE X W k σ H1 G1 Q (f ds) → Q' xs H1) : tA X P W ws es σ H Q' := by
  refine ⟨B, G, ρ, er, ?_⟩
  cases q : evs P es ρ with
  | ok d => rw [q] at h; exact fun v H' G' x r => c d v H' G' q x r (er.ext x) (h.on x)
  | exc z y => rw [q] at h; exact h
  | bad => rw [q] at h; exact h
/-- a test, then -/
theorem bndTE {a : E} {f : Bool → Res Dat} {Q' : Bool → Hp → Prop} (er : ER X.K B ρ σ H G) (h : EndE X W k σ H G Q (ev P a ρ >>= fun d => truD d >>= f))
    (c : ∀ b H1 G1, Ext H G H1 G1 → ER X.K B ρ σ H1 G1 → EndE X W k σ H1 G1 Q (f b) → Q' b H1) : tT X P W a σ H Q' := by
  refine ⟨B, G, ρ, er, ?_⟩
  cases q : ev P a ρ with
  | ok d =>
    rw [q] at h
    simp only [ok_bind] at h ⊢
    cases q2 : truD d with
    | ok b => rw [q2] at h; exact fun H' G' x => c b H' G' x (er.ext x) (h.on x)
    | exc z y => rw [q2] at h; exact h
    | bad => rw [q2] at h; exact h
  | exc z y => rw [q] at h; exact h
  | bad => rw [q] at h; exact h
theorem bndTT {a : E} {f : Bool → Res Bool} {Q : Bool → Hp → Prop} {Q' : Bool → Hp → Prop} (er : ER X.K B ρ σ H G) (h : EndT X W σ H G Q (ev P a ρ >>= fun d => truD d >>= f))
    (c : ∀ b H1 G1, Ext H G H1 G1 → ER X.K B ρ σ H1 G1 → EndT X W σ H1 G1 Q (f b) → Q' b H1) : tT X P W a σ H Q' := by
  refine ⟨B, G, ρ, er, ?_⟩
  cases q : ev P a ρ with
  | ok d =>
    rw [q] at h
    simp only [ok_bind] at h ⊢
    cases q2 : truD d with
    | ok b => rw [q2] at h; exact fun H' G' x => c b H' G' x (er.ext x) (h.on x)
    | exc z y => rw [q2] at h; exact h
    | bad => rw [q2] at h; exact h
  | exc z y => rw [q] at h; exact h
  | bad => rw [q] at h; exact h
theorem EndE.fin {f : Res Dat} (h : EndE X W 0 σ H G Q f) {d : Dat} (e : f = .ok d) : Fin X.K H G Q d := by subst e; exact h
/-- an operation's end: it is defined -/
theorem EndE.op {f : Dat → Res Dat} {d : Dat} (h : EndE X W 0 σ H G Q (f d)) (ne : ∀ c x, f d ≠ .exc c x) : ∃ r, f d = .ok r ∧ Fin X.K H G Q r := by
  cases q : f d with
  | ok r => rw [q] at h; exact ⟨r, rfl, h⟩
  | exc c x => exact absurd q (ne c x)
  | bad => rw [q] at h; exact h.elim
end
theorem bin_ne (o : Bop) (d e : Dat) (c : Str) (x : Option Dat) : binD o d e ≠ .exc c x := by
  intro h
  cases o <;> cases d <;> cases e <;> simp only [binD] at h <;> (try cases h) <;> (split at h <;> cases h)
theorem inB_ne (d e : Dat) (c : Str) (x : Option Dat) : inB d e ≠ .exc c x := by
  intro h
  cases e <;> simp only [inB] at h <;> (try cases h) <;> (try (split at h <;> cases h))
theorem cmp_ne (o : Cop) (d e : Dat) (c : Str) (x : Option Dat) : cmpD o d e ≠ .exc c x := by
  intro h
  cases o with
  | eq => simp only [cmpD] at h; split at h <;> cases h
  | ne => simp only [cmpD] at h; split at h <;> cases h
  | isin => exact inB_ne d e c x h
  | nin =>
    simp only [cmpD] at h
    cases q : inB d e with
    | ok r => rw [q] at h; cases h
    | exc c' x' => exact inB_ne d e c' x' q
    | bad => rw [q] at h; cases h
  | lt => cases d <;> cases e <;> simp only [cmpD] at h <;> cases h
  | le => cases d <;> cases e <;> simp only [cmpD] at h <;> cases h
  | gt => cases d <;> cases e <;> simp only [cmpD] at h <;> cases h
  | ge => cases d <;> cases e <;> simp only [cmpD] at h <;> cases h
  | isN => cases d <;> cases e <;> simp only [cmpD] at h <;> cases h
  | ntN => cases d <;> cases e <;> simp only [cmpD] at h <;> cases h
theorem tru_ne (d : Dat) (c : Str) (x : Option Dat) : truD d ≠ .exc c x := by
  intro h
  cases d <;> simp only [truD] at h <;> (try cases h) <;> (split at h <;> cases h)
theorem ix_ne (d e : Dat) (c : Str) (x : Option Dat) : ixD d e ≠ .exc c x := by
  intro h
  cases d <;> cases e <;> simp only [ixD] at h <;> (try cases h) <;> (split at h <;> (try cases h)) <;> (split at h <;> cases h)
theorem sl_ne (d : Dat) (l u : Option Int) (c : Str) (x : Option Dat) : slD d l u ≠ .exc c x := by
  intro h
  cases d <;> simp only [slD] at h <;> (try cases h) <;> (split at h <;> cases h)
theorem part_ne (d : Dat) (c : Str) (x : Option Dat) : partD d ≠ .exc c x := by
  intro h
  cases d <;> simp only [partD] at h <;> cases h
theorem isi_ne (t : Ty) (d : Dat) (c : Str) (x : Option Dat) : isiD t d ≠ .exc c x := by
  intro h
  cases t <;> cases d <;> simp only [isiD] at h <;> cases h
theorem m0_ne (m : M0) (d : Dat) (c : Str) (x : Option Dat) : m0D m d ≠ .exc c x := by
  intro h
  cases m <;> cases d <;> simp only [m0D] at h <;> (try cases h) <;> (split at h <;> cases h)
theorem join_ne (a : Str) (ds : List Dat) (c : Str) (x : Option Dat) : joinD a ds ≠ .exc c x := by
  intro h
  unfold joinD at h
  split at h
  · split at h <;> cases h
  · cases h
theorem m1_ne (m : M1) (d e : Dat) (c : Str) (x : Option Dat) : m1D m d e ≠ .exc c x := by
  intro h
  cases m with
  | join =>
    cases d <;> cases e <;> simp only [m1D] at h <;> first | (cases h; done) | exact join_ne _ _ _ _ h
  | startswith => cases d <;> cases e <;> simp only [m1D] at h <;> cases h
  | endswith => cases d <;> cases e <;> simp only [m1D] at h <;> cases h
  | split => cases d <;> cases e <;> simp only [m1D] at h <;> (try cases h) <;> (split at h <;> cases h)
  | index => cases d <;> cases e <;> simp only [m1D] at h <;> (try cases h) <;> (split at h <;> cases h)
  | rstrip => cases d <;> cases e <;> simp only [m1D] at h <;> (try cases h) <;> (split at h <;> cases h)
  | find => cases d <;> cases e <;> simp only [m1D] at h <;> cases h
theorem bi_ne (f : Bi) (ds : List Dat) (c : Str) (x : Option Dat) : biD f ds ≠ .exc c x := by
  intro h
  have z : ∀ r : Res Dat, r = .exc c x → (∃ d, r = .ok d) ∨ r = .bad → False := fun r e q => by
    subst e
    rcases q with ⟨d, q⟩ | q <;> cases q
  refine z _ h ?_
  clear h z
  unfold biD anyD allD minD sortD sortND
  split <;> first | exact .inl ⟨_, rfl⟩ | exact .inr rfl | (split <;> first | exact .inl ⟨_, rfl⟩ | exact .inr rfl | (split <;> first | exact .inl ⟨_, rfl⟩ | exact .inr rfl | (split <;> first | exact .inl ⟨_, rfl⟩ | exact .inr rfl)))

section
variable {X : Cx} {T : Tx} {P : Pg} {n : Nat} {W : WX} {x y z : Expr} {pos : Pos} {a b c : E} {ka kb kc : Nat}
theorem s_var {i : Nat} {nm : Str} (h : okE T n X.N X.env.scope (.var i) (.Name nm pos) = true) : PE X (.Name nm pos) (tK X P W 0 (.var i)) := by
  simp only [okE, Bool.and_eq_true, decide_eq_true_eq] at h
  refine PE.imp (pe_var h.1.1 (vis_of h.1.2) (okN_d h.2) (okN_c h.2)) fun σ H Q ⟨B, G, ρ, er, q⟩ => ?_
  simp only [ev] at q
  cases e : getS ρ i with
  | fz d =>
    rw [e] at q
    obtain ⟨o, h1, v, rfl, r⟩ := er.at_ i _ (getS_some e nofun)
    exact ⟨v, h1, q v H G (Ext.refl er.sub) r⟩
  | un => rw [e] at q; exact q.elim
  | ow _ => rw [e] at q; exact q.elim
  | ln _ => rw [e] at q; exact q.elim
  | ex _ _ _ _ => rw [e] at q; exact q.elim
theorem s_tv {i : Nat} {nm : Str} (h : okE T n X.N X.env.scope (.tv i) (.Name nm pos) = true) : PE X (.Name nm pos) (tK X P W 1 (.tv i)) := by
  simp only [okE, Bool.and_eq_true, decide_eq_true_eq] at h
  refine PE.imp (pe_var h.1.1 (vis_of h.1.2) (okN_d h.2) (okN_c h.2)) fun σ H Q ⟨B, G, ρ, er, q⟩ => ?_
  simp only [ev] at q
  cases e : getS ρ i with
  | fz d =>
    rw [e] at q
    obtain ⟨o, h1, v, rfl, r⟩ := er.at_ i _ (getS_some e nofun)
    cases d with
    | list ds => exact ⟨v, h1, q v H G (Ext.refl er.sub) (.st r)⟩
    | _ => exact q.elim
  | un => rw [e] at q; exact q.elim
  | ow ds =>
    rw [e] at q
    obtain ⟨o, h1, a, vs, rfl, h2, h3, r⟩ := er.at_ i _ (getS_some e nofun)
    exact ⟨_, h1, q _ H G (Ext.refl er.sub) (.wk (SqL.of h2) r)⟩
  | ln ds =>
    rw [e] at q
    obtain ⟨o, h1, a, vs, rfl, h2, r⟩ := er.at_ i _ (getS_some e nofun)
    exact ⟨_, h1, q _ H G (Ext.refl er.sub) (.wk (sqL_keep er.bas h2) r)⟩
  | ex _ _ _ _ => rw [e] at q; exact q.elim
theorem s_lit {e : E} {d : Dat} {v : V} {x : Expr} (hx : PE X x (tC v)) (he : ∀ ρ, ev P e ρ = .ok d) (r : ∀ G, Rep X.K G v d) : PE X x (tK X P W 0 e) :=
  PE.imp hx fun σ H Q ⟨B, G, ρ, er, q⟩ => by
    rw [he] at q
    exact q v H G (Ext.refl er.sub) (r G)
theorem weakE (ha : PE X x (tK X P W ka a)) : PE X x (tK X P W 1 a) := PE.imp ha fun _ _ _ h => tK_weak h
theorem stillE (hk : ka ≠ 1) (ha : PE X x (tK X P W ka a)) : PE X x (tK X P W 0 a) := PE.imp ha fun _ _ _ h => tK_still hk h
theorem s_bin {o : Bop} (ha : PE X x (tK X P W ka a)) (hb : PE X y (tK X P W kb b)) : PE X (.BinOp x (opB o) y pos) (tK X P W 0 (.bin o a b)) :=
  PE.imp (pe_op (op_bin o) (weakE ha) (weakE hb)) fun σ H Q ⟨B, G, ρ, er, q⟩ => by
    simp only [ev] at q
    refine bndE er q fun d v H1 G1 x1 r1 er1 q1 => ?_
    refine bndE er1 q1 fun e w H2 G2 x2 r2 er2 q2 => ?_
    obtain ⟨r, hr, fin⟩ := q2.op (bin_ne o d e)
    exact ⟨G2, d, e, r, er2.sub, RW.ext x2 r1, r2, hr, fin⟩
theorem s_neg (ha : PE X x (tK X P W ka a)) : PE X (.UnaryOp .USub x pos) (tK X P W 0 (.neg a)) :=
  PE.imp (pe_un un_neg (weakE ha)) fun σ H Q ⟨B, G, ρ, er, q⟩ => by
    simp only [ev] at q
    refine bndE er q fun d v H1 G1 x1 r1 er1 q1 => ?_
    cases d with
    | int i =>
      have := RW.int r1; subst this
      exact ⟨i, rfl, Fin.flat er1.sub (Fin.of q1) (.int _)⟩
    | _ => exact q1.elim
theorem s_cmp {o : Cop} {k : Nat} (hr : Room k X.A) (hp : plainE y = true) (ha : PE X x (tK X P W ka a)) (hb : PE X y (tK X P W kb b)) : PE X (.Compare x [opC o] [y] pos) (tK X P W 0 (.cmp o a b)) :=
  PE.imp (pe_cmpR (op_cmp hr o) (weakE ha) (weakE hb) (plain_mark hp)) fun σ H Q ⟨B, G, ρ, er, q⟩ => by
    simp only [ev] at q
    refine bndE er q fun d v H1 G1 x1 r1 er1 q1 => ?_
    refine bndE er1 q1 fun e w H2 G2 x2 r2 er2 q2 => ?_
    cases hc : cmpD o d e with
    | ok r => rw [hc] at q2; exact ⟨G2, d, e, r, er2.sub, RW.ext x2 r1, r2, hc, Fin.flat er2.sub (Fin.of q2) (.bl r)⟩
    | exc c z => exact absurd hc (cmp_ne o d e c z)
    | bad => rw [hc] at q2; exact q2.elim
theorem s_cmpT {o : Cop} {k : Nat} (hr : Room k X.A) (hp : plainE y = true) (ha : PE X x (tK X P W ka a)) (hb : PE X y (tK X P W kb b)) : PT X (.Compare x [opC o] [y] pos) (tT X P W (.cmp o a b)) :=
  PT.imp (pt_cmpR (op_cmp hr o) (weakE ha) (weakE hb) (plain_mark hp)) fun σ H Q ⟨B, G, ρ, er, q⟩ => by
    have e0 : (ev P (.cmp o a b) ρ >>= fun d => truD d) = (ev P a ρ >>= fun d => ev P b ρ >>= fun e => cmpD o d e) := by
      simp only [ev]
      cases h1 : ev P a ρ with
      | ok d =>
        simp only [ok_bind]
        cases h2 : ev P b ρ with
        | ok e =>
          simp only [ok_bind]
          cases h3 : cmpD o d e <;> rfl
        | exc _ _ => rfl
        | bad => rfl
      | exc _ _ => rfl
      | bad => rfl
    rw [e0] at q
    refine bndT er q fun d v H1 G1 x1 r1 er1 q1 => ?_
    refine bndT er1 q1 fun e w H2 G2 x2 r2 er2 q2 => ?_
    cases hc : cmpD o d e with
    | ok r => rw [hc] at q2; exact ⟨G2, d, e, r, er2.sub, RW.ext x2 r1, r2, hc, r, rfl, q2 H2 G2 (Ext.refl er2.sub)⟩
    | exc c z => exact absurd hc (cmp_ne o d e c z)
    | bad => rw [hc] at q2; exact q2.elim
theorem last_marks {o p : Cop} (hp : plainE z = true) : lastMarks [opC o, opC p] [y, z] = false := plain_mark hp
theorem s_chn {o p : Cop} {k : Nat} (hr : Room k X.A) (hp : plainE z = true) (ha : PE X x (tK X P W ka a)) (hb : PE X y (tK X P W kb b)) (hc : PE X z (tK X P W kc c)) : PE X (.Compare x [opC o, opC p] [y, z] pos) (tK X P W 0 (.chn o p a b c)) :=
  PE.imp (pe_chain (op_cmp hr o) (op_cmp hr p) (weakE ha) (weakE hb) (weakE hc) (last_marks hp)) fun σ H Q ⟨B, G, ρ, er, q⟩ => by
    simp only [ev] at q
    refine bndE er q fun d v H1 G1 x1 r1 er1 q1 => ?_
    refine bndE er1 q1 fun e w H2 G2 x2 r2 er2 q2 => ?_
    cases h1 : cmpD o d e with
    | ok r =>
      rw [h1] at q2
      refine ⟨G2, d, e, r, er2.sub, RW.ext x2 r1, r2, h1, r, rfl, ?_⟩
      cases r with
      | true =>
        rw [if_pos rfl]
        refine bndE er2 q2 fun f u H3 G3 x3 r3 er3 q3 => ?_
        cases h2 : cmpD p e f with
        | ok r => rw [h2] at q3; exact ⟨G3, e, f, r, er3.sub, RW.ext x3 r2, r3, h2, Fin.flat er3.sub (Fin.of q3) (.bl r)⟩
        | exc c z => exact absurd h2 (cmp_ne p e f c z)
        | bad => rw [h2] at q3; exact q3.elim
      | false =>
        rw [if_neg Bool.false_ne_true]
        exact Fin.flat er2.sub (Fin.of q2) (.bl false)
    | exc c z => exact absurd h1 (cmp_ne o d e c z)
    | bad => rw [h1] at q2; exact q2.elim
theorem s_chnT {o p : Cop} {k : Nat} (hr : Room k X.A) (hp : plainE z = true) (ha : PE X x (tK X P W ka a)) (hb : PE X y (tK X P W kb b)) (hc : PE X z (tK X P W kc c)) : PT X (.Compare x [opC o, opC p] [y, z] pos) (tT X P W (.chn o p a b c)) :=
  PT.imp (pt_chain (op_cmp hr o) (op_cmp hr p) (weakE ha) (weakE hb) (weakE hc) (last_marks hp)) fun σ H Q ⟨B, G, ρ, er, q⟩ => by
    have e0 : (ev P (.chn o p a b c) ρ >>= fun d => truD d) = (ev P a ρ >>= fun d => ev P b ρ >>= fun e => cmpD o d e >>= fun r => match r with
        | true => ev P c ρ >>= fun f => cmpD p e f
        | false => .ok false) := by
      simp only [ev]
      cases h1 : ev P a ρ with
      | ok d =>
        simp only [ok_bind]
        cases h2 : ev P b ρ with
        | ok e =>
          simp only [ok_bind]
          cases h3 : cmpD o d e with
          | ok r =>
            simp only [ok_bind]
            cases r with
            | true =>
              simp only
              cases h4 : ev P c ρ with
              | ok f =>
                simp only [ok_bind]
                cases h5 : cmpD p e f <;> rfl
              | exc _ _ => rfl
              | bad => rfl
            | false => rfl
          | exc _ _ => rfl
          | bad => rfl
        | exc _ _ => rfl
        | bad => rfl
      | exc _ _ => rfl
      | bad => rfl
    rw [e0] at q
    refine bndT er q fun d v H1 G1 x1 r1 er1 q1 => ?_
    refine bndT er1 q1 fun e w H2 G2 x2 r2 er2 q2 => ?_
    cases h1 : cmpD o d e with
    | ok r =>
      rw [h1] at q2
      refine ⟨G2, d, e, r, er2.sub, RW.ext x2 r1, r2, h1, r, rfl, ?_⟩
      cases r with
      | true =>
        rw [if_pos rfl]
        refine bndT er2 q2 fun f u H3 G3 x3 r3 er3 q3 => ?_
        cases h2 : cmpD p e f with
        | ok r => rw [h2] at q3; exact ⟨G3, e, f, r, er3.sub, RW.ext x3 r2, r3, h2, r, rfl, q3 H3 G3 (Ext.refl er3.sub)⟩
        | exc c z => exact absurd h2 (cmp_ne p e f c z)
        | bad => rw [h2] at q3; exact q3.elim
      | false =>
        rw [if_neg Bool.false_ne_true]
        exact ⟨false, rfl, q2 H2 G2 (Ext.refl er2.sub)⟩
    | exc c z => exact absurd h1 (cmp_ne o d e c z)
    | bad => rw [h1] at q2; exact q2.elim
/-- a value's truth as a test -/
theorem s_tst (ht : tstE x = true) (ha : PE X x (tK X P W ka a)) : PT X x (tT X P W a) :=
  PT.imp (pt_truth (weakE ha) (tst_true ht)) fun σ H Q ⟨B, G, ρ, er, q⟩ => by
    refine bndT er q fun d v H1 G1 x1 r1 er1 q1 => ?_
    cases h1 : truD d with
    | ok r => rw [h1] at q1; exact ⟨r, tru_of er1.sub r1 h1, q1 H1 G1 (Ext.refl er1.sub)⟩
    | exc c z => exact absurd h1 (tru_ne d c z)
    | bad => rw [h1] at q1; exact q1.elim
end
end NW
end

section
set_option maxHeartbeats 4000000
namespace NW
open PySem PySem.Spec PyProof.Rows L2

structure Snd (X : Cx) (T : Tx) (P : Pg) (W : WX) (e : E) (x : Expr) : Prop where
  pe : PE X x (tK X P W (kd T e) e)
  pt : isIfe e = false → PT X x (tT X P W e)
  pw : ∀ op vs pos, x = .BoolOp op vs pos → PW X x (tT X P W e)
section
variable {X : Cx} {T : Tx} {P : Pg} {n : Nat} {W : WX} {x y z : Expr} {pos : Pos} {a b c : E} {ka kb kc : Nat}
/-- two tests joined -/
theorem and_T (ρ : En) : (ev P (.and a b) ρ >>= fun d => truD d) = (ev P a ρ >>= fun d => truD d >>= fun r => match r with
    | true => ev P b ρ >>= fun e => truD e
    | false => .ok false) := by
  simp only [ev]
  cases h1 : ev P a ρ with
  | ok d =>
    simp only [ok_bind]
    cases h2 : truD d with
    | ok r =>
      simp only [ok_bind]
      cases r with
      | true => rfl
      | false => exact h2
    | exc _ _ => rfl
    | bad => rfl
  | exc _ _ => rfl
  | bad => rfl
theorem or_T (ρ : En) : (ev P (.or a b) ρ >>= fun d => truD d) = (ev P a ρ >>= fun d => truD d >>= fun r => match r with
    | true => .ok true
    | false => ev P b ρ >>= fun e => truD e) := by
  simp only [ev]
  cases h1 : ev P a ρ with
  | ok d =>
    simp only [ok_bind]
    cases h2 : truD d with
    | ok r =>
      simp only [ok_bind]
      cases r with
      | true => exact h2
      | false => rfl
    | exc _ _ => rfl
    | bad => rfl
  | exc _ _ => rfl
  | bad => rfl
theorem not_T (ρ : En) : (ev P (.not a) ρ >>= fun d => truD d) = (ev P a ρ >>= fun d => truD d >>= fun r => .ok (!r)) := by
  simp only [ev]
  cases h1 : ev P a ρ with
  | ok d =>
    simp only [ok_bind]
    cases h2 : truD d <;> rfl
  | exc _ _ => rfl
  | bad => rfl
theorem s_and {r : List Expr} (h1 : ka ≠ 1) (h2 : kb ≠ 1) (ha : PE X x (tK X P W ka a)) (hb : PE X (.BoolOp .And (y :: r) pos) (tK X P W kb b)) : PE X (.BoolOp .And (x :: y :: r) pos) (tK X P W 0 (.and a b)) :=
  PE.imp (pe_andT (stillE h1 ha) (stillE h2 hb)) fun σ H Q ⟨B, G, ρ, er, q⟩ => by
    simp only [ev] at q
    refine bndE er q fun d v H1 G1 x1 r1 er1 q1 => ?_
    cases h1 : truD d with
    | ok r =>
      rw [h1] at q1
      refine ⟨r, tru_of er1.sub (.st r1) h1, ?_⟩
      cases r with
      | true => rw [if_pos rfl]; exact ⟨B, G1, ρ, er1, q1⟩
      | false => rw [if_neg Bool.false_ne_true]; exact Fin.flat er1.sub (Fin.of q1) r1
    | exc c z => exact absurd h1 (tru_ne d c z)
    | bad => rw [h1] at q1; exact q1.elim
theorem s_or {r : List Expr} (h1 : ka ≠ 1) (h2 : kb ≠ 1) (ha : PE X x (tK X P W ka a)) (hb : PE X (.BoolOp .Or (y :: r) pos) (tK X P W kb b)) : PE X (.BoolOp .Or (x :: y :: r) pos) (tK X P W 0 (.or a b)) :=
  PE.imp (pe_orT (stillE h1 ha) (stillE h2 hb)) fun σ H Q ⟨B, G, ρ, er, q⟩ => by
    simp only [ev] at q
    refine bndE er q fun d v H1 G1 x1 r1 er1 q1 => ?_
    cases h1 : truD d with
    | ok r =>
      rw [h1] at q1
      refine ⟨r, tru_of er1.sub (.st r1) h1, ?_⟩
      cases r with
      | true => rw [if_pos rfl]; exact Fin.flat er1.sub (Fin.of q1) r1
      | false => rw [if_neg Bool.false_ne_true]; exact ⟨B, G1, ρ, er1, q1⟩
    | exc c z => exact absurd h1 (tru_ne d c z)
    | bad => rw [h1] at q1; exact q1.elim
theorem w_and {r : List Expr} (ha : PT X x (tT X P W a)) (hb : PW X (.BoolOp .And (y :: r) pos) (tT X P W b)) : PW X (.BoolOp .And (x :: y :: r) pos) (tT X P W (.and a b)) :=
  PW.imp (pw_and ha hb) fun σ H Q ⟨B, G, ρ, er, q⟩ => by
    rw [and_T] at q
    refine bndTT er q fun r H1 G1 x1 er1 q1 => ?_
    cases r with
    | true => rw [if_pos rfl]; exact ⟨B, G1, ρ, er1, q1⟩
    | false => rw [if_neg Bool.false_ne_true]; exact q1 H1 G1 (Ext.refl er1.sub)
theorem w_or {r : List Expr} (ha : PT X x (tT X P W a)) (hb : PW X (.BoolOp .Or (y :: r) pos) (tT X P W b)) : PW X (.BoolOp .Or (x :: y :: r) pos) (tT X P W (.or a b)) :=
  PW.imp (pw_or ha hb) fun σ H Q ⟨B, G, ρ, er, q⟩ => by
    rw [or_T] at q
    refine bndTT er q fun r H1 G1 x1 er1 q1 => ?_
    cases r with
    | true => rw [if_pos rfl]; exact q1 H1 G1 (Ext.refl er1.sub)
    | false => rw [if_neg Bool.false_ne_true]; exact ⟨B, G1, ρ, er1, q1⟩
theorem s_not (ha : PE X x (tK X P W ka a)) : PE X (.UnaryOp .Not x pos) (tK X P W 0 (.not a)) :=
  PE.imp (pe_notT (weakE ha)) fun σ H Q ⟨B, G, ρ, er, q⟩ => by
    simp only [ev] at q
    refine bndE er q fun d v H1 G1 x1 r1 er1 q1 => ?_
    cases h1 : truD d with
    | ok r => rw [h1] at q1; exact ⟨r, tru_of er1.sub r1 h1, Fin.flat er1.sub (Fin.of q1) (.bl _)⟩
    | exc c z => exact absurd h1 (tru_ne d c z)
    | bad => rw [h1] at q1; exact q1.elim
theorem s_notT (ha : PT X x (tT X P W a)) : PT X (.UnaryOp .Not x pos) (tT X P W (.not a)) :=
  PT.imp (pt_not ha) fun σ H Q ⟨B, G, ρ, er, q⟩ => by
    rw [not_T] at q
    refine bndTT er q fun r H1 G1 x1 er1 q1 => ?_
    exact q1 H1 G1 (Ext.refl er1.sub)
theorem s_ife (h1 : kb ≠ 1) (h2 : kc ≠ 1) (ha : PT X x (tT X P W a)) (hb : PE X y (tK X P W kb b)) (hc : PE X z (tK X P W kc c)) : PE X (.IfExp x y z pos) (tK X P W 0 (.ife a b c)) :=
  PE.imp (pe_ifExp ha (stillE h1 hb) (stillE h2 hc)) fun σ H Q ⟨B, G, ρ, er, q⟩ => by
    simp only [ev] at q
    refine bndTE er q fun r H1 G1 x1 er1 q1 => ?_
    cases r with
    | true => rw [if_pos rfl]; exact ⟨B, G1, ρ, er1, q1⟩
    | false => rw [if_neg Bool.false_ne_true]; exact ⟨B, G1, ρ, er1, q1⟩
theorem s_ix (hp : plainE y = true) (ha : PE X x (tK X P W ka a)) (hb : PE X y (tK X P W kb b)) : PE X (.Subscript x y pos) (tK X P W 0 (.ix a b)) :=
  PE.imp (pe_ix ix_data (weakE ha) (weakE hb) (plain_ix hp)) fun σ H Q ⟨B, G, ρ, er, q⟩ => by
    simp only [ev] at q
    refine bndE er q fun d v H1 G1 x1 r1 er1 q1 => ?_
    refine bndE er1 q1 fun e w H2 G2 x2 r2 er2 q2 => ?_
    obtain ⟨r, hr, fin⟩ := q2.op (ix_ne d e)
    exact ⟨G2, d, e, r, er2.sub, RW.ext x2 r1, r2, hr, fin⟩
/-- a slice's part -/
def tOp1 (X : Cx) (P : Pg) (W : WX) (e : E) : TO := fun σ H Q => ∃ B G ρ, ER X.K B ρ σ H G ∧ (match optE e (ev P e ρ) with
  | .ok o => ∀ H' G', Ext H G H' G' → Q o H'
  | .exc c x => ∀ cls dx H' G', Ext H G H' G' → XR X.K X.mg H' G' cls dx c x → W cls dx σ H'
  | .bad => False)
theorem PO.imp {X : Cx} {e : Option Expr} {t t' : TO} (h : PO X e t) (i : ∀ σ H Q, t' σ H Q → t σ H Q) : PO X e t' := ⟨fun pins s σ H Q I q => h.run pins s σ H Q I (i σ H Q q)⟩
theorem s_po {l : Option Expr} {lo : E} (h : (match l with
      | none => isNo lo
      | some l => !isNo lo && okE T n X.N X.env.scope lo l) = true) (hl : ∀ l, okE T n X.N X.env.scope lo l = true → PE X l (tK X P W (kd T lo) lo)) : PO X l (tOp1 X P W lo) := by
  cases l with
  | none =>
    refine PO.imp po_none fun σ H Q ⟨B, G, ρ, er, q⟩ => ?_
    cases lo <;> simp [isNo] at h
    exact q H G (Ext.refl er.sub)
  | some l =>
    simp only [Bool.and_eq_true, Bool.not_eq_true'] at h
    refine PO.imp (po_some (weakE (hl l h.2))) fun σ H Q ⟨B, G, ρ, er, q⟩ => ?_
    have e0 : optE lo (ev P lo ρ) = (ev P lo ρ >>= fun d => partD d) := by
      cases lo <;> first | rfl | (simp [isNo] at h)
    rw [e0] at q
    refine ⟨B, G, ρ, er, ?_⟩
    cases q1 : ev P lo ρ with
    | ok d =>
      rw [q1] at q
      intro v H' G' x r
      cases d with
      | int i => have := RW.int r; subst this; exact ⟨i, rfl, q H' G' x⟩
      | _ => exact q.elim
    | exc c x => rw [q1] at q; exact q
    | bad => rw [q1] at q; exact q
theorem bndO {e : E} {f : Option Int → Res Dat} {σ : L2.St} {B H G : Hp} {ρ : En} {Q : VK} {Q' : Option Int → Hp → Prop} (er : ER X.K B ρ σ H G) (h : EndE X W 0 σ H G Q (optE e (ev P e ρ) >>= f))
    (c : ∀ o H1 G1, Ext H G H1 G1 → ER X.K B ρ σ H1 G1 → EndE X W 0 σ H1 G1 Q (f o) → Q' o H1) : tOp1 X P W e σ H Q' := by
  refine ⟨B, G, ρ, er, ?_⟩
  cases q : optE e (ev P e ρ) with
  | ok d => rw [q] at h; exact fun H' G' x => c d H' G' x (er.ext x) (h.on x)
  | exc z y => rw [q] at h; exact h
  | bad => rw [q] at h; exact h
theorem s_sl {l h : Option Expr} {p2 : Pos} (ha : PE X x (tK X P W ka a)) (hl : PO X l (tOp1 X P W b)) (hh : PO X h (tOp1 X P W c)) : PE X (.Subscript x (.Slice l h none p2) pos) (tK X P W 0 (.sl a b c)) :=
  PE.imp (pe_slice sl_data (weakE ha) hl hh) fun σ H Q ⟨B, G, ρ, er, q⟩ => by
    simp only [ev] at q
    refine bndE er q fun d v H1 G1 x1 r1 er1 q1 => ?_
    refine bndO er1 q1 fun o H2 G2 x2 er2 q2 => ?_
    refine bndO er2 q2 fun u H3 G3 x3 er3 q3 => ?_
    obtain ⟨r, hr, fin⟩ := EndE.op (f := fun d => slD d o u) q3 (sl_ne d o u)
    exact ⟨G3, d, r, er3.sub, RW.ext x3 (RW.ext x2 r1), hr, fin⟩
theorem ras_still {K : PySem.W.Frag} {H G : Hp} : ∀ {vs : List V} {ds : List Dat}, RAs K H G [] vs ds → Reps K G vs ds
  | _, _, .nil => .nil
  | _, _, .cons r t => .cons (by simpa using r) (ras_still t)
theorem ras_weak {K : PySem.W.Frag} {H G : Hp} : ∀ {ws : List Bool} {vs : List V} {ds : List Dat}, RAs K H G ws vs ds → RWs K H G vs ds
  | _, _, _, .nil => .nil
  | ws, _, _, .cons r t => .cons (by
      by_cases h : ws.headD false = true
      · rw [if_pos h] at r; exact r
      · rw [if_neg h] at r; exact .st r) (ras_weak t)
theorem reps_len {K : PySem.W.Frag} {G : Hp} {vs : List V} {ds : List Dat} (r : Reps K G vs ds) {m : Nat} (h : ds.length ≤ m) : vs.length ≤ m := by rw [r.length]; exact h
theorem s_tup {xs : List Expr} {es : Es} {k : Nat} (h : PA X xs (tA X P W [] es)) : PE X (.Tuple xs k pos) (tK X P W 0 (.tup es)) :=
  PE.imp (pe_tup h) fun σ H Q ⟨B, G, ρ, er, q⟩ => by
    simp only [ev] at q
    refine bndAE er q fun ds vs H1 G1 _ x1 r1 er1 q1 => ?_
    split at q1
    · rename_i hz
      have rr := ras_still r1
      exact ⟨le_line (reps_len rr hz), fun p np => Fin.tup er1.sub (Fin.of q1) rr p np⟩
    · exact q1.elim
theorem New.of2 {σ : L2.St} {H G : Hp} {Q : VK} {ds : List Dat} (h : EndE X W 2 σ H G Q (.ok (.list ds))) : New X.K H G Q ds := fun a vs H' G' x na ga ha r => h _ H' G' x ⟨a, vs, ds, rfl, rfl, na, ga, ha, r⟩
theorem s_lst {xs : List Expr} {es : Es} (h : PA X xs (tA X P W [] es)) : PE X (.List xs pos) (tK X P W 2 (.lst es)) :=
  PE.imp (pe_lst h) fun σ H Q ⟨B, G, ρ, er, q⟩ => by
    simp only [ev] at q
    refine bndAE er q fun ds vs H1 G1 _ x1 r1 er1 q1 => ?_
    split at q1
    · rename_i hz
      have rr := ras_still r1
      exact ⟨le_line (reps_len rr hz), fun p np => (New.of2 q1).lst er1.sub rr p np⟩
    · exact q1.elim
def lenEs : Es → Nat
  | .nil => 0
  | .cons _ r => lenEs r + 1
theorem evs_len {ρ : En} : ∀ {es : Es} {ds : List Dat}, evs P es ρ = .ok ds → ds.length = lenEs es
  | .nil, ds, h => by simp only [evs] at h; cases h; rfl
  | .cons e r, ds, h => by
    simp only [evs] at h
    cases q : ev P e ρ with
    | ok d =>
      rw [q] at h
      simp only [ok_bind] at h
      cases q2 : evs P r ρ with
      | ok es => rw [q2] at h; simp only [ok_bind] at h; cases h; simp [evs_len q2, lenEs]
      | exc _ _ => rw [q2] at h; cases h
      | bad => rw [q2] at h; cases h
    | exc _ _ => rw [q] at h; cases h
    | bad => rw [q] at h; cases h
theorem okEs_len {N : List Str} {sc : Scope} : ∀ {es : Es} {ws : List Bool} {xs : List Expr}, okEs T n N sc ws es xs = true → lenEs es = xs.length
  | .nil, _, [], _ => rfl
  | .nil, _, _ :: _, h => by simp [okEs] at h
  | .cons e r, _, [], h => by simp [okEs] at h
  | .cons e r, ws, x :: xs, h => by
    simp only [okEs, Bool.and_eq_true] at h
    simp [lenEs, okEs_len h.2]
theorem ras_len {K : PySem.W.Frag} {H G : Hp} : ∀ {ws : List Bool} {vs : List V} {ds : List Dat}, RAs K H G ws vs ds → vs.length = ds.length
  | _, _, _, .nil => rfl
  | _, _, _, .cons _ t => by simp [ras_len t]
theorem s_cal {k : Nat} {nm : Str} {np : Pos} {xs : List Expr} {es : Es} {sg : Sig} (g : Gd X T P n W) (hs : T.fns[k]? = some sg) (hn : sg.nm = nm) (hk : k < n) (hg : glB X.env.scope nm = true) (ho : okN nm = true)
    (hw : sg.kw = none) (hcl : (!T.cl || sg.cl) = true) (hl : sg.ln.length = (y :: xs).length) (hl2 : lenEs es = (y :: xs).length) (hp : plains (y :: xs) = true) (h : PA X (y :: xs) (tA X P W sg.ln es)) : PE X (.Call (.Name nm np) (y :: xs) [] pos) (tK X P W sg.fr (.cal k es)) := by
  have hx := g.fns k sg hk hs
  unfold FnX at hx
  rw [hw] at hx
  obtain ⟨f, fd, ps, dfs, dvs, sp, h1, h2, h3, h4, h5, h6⟩ := hx
  subst hn
  have hp' := hp
  unfold plains at hp'
  rw [List.all_cons, Bool.and_eq_true] at hp'
  have hg' : X.env.scope.names.lookup sg.nm = some .globalImplicit := of_decide_eq_true hg
  refine PE.imp (pe_callSD h3 g.room hg' h1 h2 h4 h5 (fun σ => passB g.tk hcl σ) h (okN_d ho) (star_cons hp'.1) (no_star hp'.2)) fun σ H Q ⟨B, G, ρ, er, q⟩ => ?_
  simp only [ev] at q
  refine bndAE (Q' := fun vs H1 => sp (vs ++ dvs) H1 Q (WE W σ)) er q fun ds vs H1 G1 e1 x1 r1 er1 q1 => ?_
  refine h6 vs H1 Q (WE W σ) ?_
  refine ⟨G1, ds, er1.sub, by rw [ras_len r1, evs_len e1, hl, hl2], r1, ?_⟩
  cases hF : P.F k ds with
  | ok d => rw [hF] at q1; exact q1
  | exc c x => rw [hF] at q1; exact q1
  | bad => rw [hF] at q1; exact q1
/-- f(e, .., k = v) where what is raised is wished for at the caller's slots -/
def tCallNS (n m : Nat) (sp : Sp) (gV : List V → List V → List V) (E : L2.St → XK) (t tk : TA) : TE := fun σ H Q => t σ H fun vs H1 => tk σ H1 fun zs H2 => vs.length = n ∧ zs.length = m ∧ sp (gV vs zs) H2 Q (E σ)
theorem pe_callNS {CX : CXT} {k m : Nat} {f : Addr} {fd : FuncData} {ps ks : List Str} {sp : Sp} {E : L2.St → XK} {x : Str} {p pos : Pos} {e : Expr} {es : List Expr} {kws : List Keyword} {t tk : TA} {g : List Value → List Value → List Value} {gV : List V → List V → List V}
    (F : FnOk X.prog X.w X.K X.mg X.base CX k f fd ps sp) (hr : Room k X.A) (hg : Gl X x) (hm : X.mg x = some (.ref f)) (hk : PySem.W.keepIn X.K (.ref f) = true) (hb : KBn X.K fd ps m ks g gV) (hx : ∀ σ, PassesAt CX X σ (E σ))
    (ha : PA X (e :: es) t) (hkw : PK X kws tk) (hall : (backToKw pos (keywordEach kws X.env)).all (·.1.isSome) = true) (hks : (backToKw pos (keywordEach kws X.env)).filterMap (·.1) = ks)
    (hdb : (x == ("__debug__" : Str)) = false) (he : starEach (e :: es) X.env = (false, eval e X.env) :: starEach es X.env)
    (hpl : ((backTo pos (starEach (e :: es) X.env)).any (·.1) || (backToKw pos (keywordEach kws X.env)).any (·.1.isNone)) = false) :
    PE X (.Call (.Name x p) (e :: es) kws pos) (tCallNS m ks.length sp gV E t tk) := by
  refine ⟨fun pins s σ H Q I h => ?_⟩
  refine wpAny_Call_Name_kw (ld_glob I hg hm ?_ hdb)
  refine PySem.W.callWith_KW (h₀ := X.base) I.ok.mod.kin hk hall (thn (ha.run pos pins s σ H _ I h) fun us s1 ⟨vs, H1, I1, r, q⟩ => ?_) hpl he
  refine thn (hkw.run pos pins s1 σ H1 _ I1 q) fun ws s2 ⟨zs, H2, I2, rz, l1, l2, q2⟩ => ⟨I2.kIn, ?_⟩
  rw [hks]
  have r2 := hb.rel r rz
  refine wpAny_call (codeAny_mono (F.run X.A X.stack s2 H2 ⟨us, ks.zip ws⟩ (g us ws) (gV vs zs) Q (E σ) hr I2.env0 (hb.to s2 us ws I2.kIn (r.length.symm.trans l1) (rz.length.symm.trans l2)) r2 q2) fun r s' hq => ?_)
  cases r with
  | error e => exact hx σ pins H2 s2 e s' I2 hq
  | ok fl =>
    cases fl with
    | ret u => exact I2.after hq
    | next => exact False.elim hq
    | brk => exact False.elim hq
    | cont => exact False.elim hq
theorem ras_false {K : PySem.W.Frag} {H G : Hp} : ∀ {m : Nat} {vs : List V} {ds : List Dat}, Reps K G vs ds → RAs K H G (List.replicate m false) vs ds
  | _, [], _, .nil => .nil
  | 0, _ :: _, _, .cons r t => .cons (by simpa using r) (ras_false (m := 0) t)
  | m + 1, _ :: _, _, .cons r t => .cons (by simpa [List.replicate] using r) (ras_false t)
theorem s_calk {k : Nat} {nm w : Str} {np kp : Pos} {z : Expr} {xs : List Expr} {es : Es} {e : E} {sg : Sig} (g : Gd X T P n W) (hs : T.fns[k]? = some sg) (hn : sg.nm = nm) (hk : k < n) (hg : glB X.env.scope nm = true) (ho : okN nm = true)
    (hw : sg.kw = some w) (hcl : (!T.cl || sg.cl) = true) (hl : sg.ln.length = (y :: xs).length + 1) (hf : sg.fr = 0) (hl2 : lenEs es = (y :: xs).length) (hp : plains (y :: xs) = true) (h : PA X (y :: xs) (tA X P W [] es)) (he : PE X z (tK X P W 0 e)) :
    PE X (.Call (.Name nm np) (y :: xs) [⟨some w, z, kp⟩] pos) (tK X P W 0 (.calk k es w e)) := by
  have hx := g.fns k sg hk hs
  unfold FnX at hx
  rw [hw] at hx
  obtain ⟨f, fd, ps, gg, gV, sp, h1, h2, h3, h4, h5, h6⟩ := hx
  subst hn
  have hp' := hp
  unfold plains at hp'
  rw [List.all_cons, Bool.and_eq_true] at hp'
  have hg' : X.env.scope.names.lookup sg.nm = some .globalImplicit := of_decide_eq_true hg
  have hst : (backTo pos (starEach (y :: xs) X.env)).any (·.1) = false := no_star hp
  refine PE.imp (pe_callNS h3 g.room hg' h1 h2 h4 (fun σ => passB g.tk hcl σ) h (pk_cons (nm := some w) (kpos := kp) he pk_nil) rfl rfl (okN_d ho) (star_cons hp'.1) (by rw [hst]; rfl)) fun σ H Q ⟨B, G, ρ, er, q⟩ => ?_
  simp only [ev] at q
  refine bndAE (Q' := fun vs H1 => tCons (tK X P W 0 e) tNil σ H1 fun zs H2 => vs.length = sg.ln.length - 1 ∧ zs.length = [w].length ∧ sp (gV vs zs) H2 Q (WE W σ)) er q fun ds vs H1 G1 e1 x1 r1 er1 q1 => ?_
  refine bndE (Q' := fun v H2 => vs.length = sg.ln.length - 1 ∧ [v].length = [w].length ∧ sp (gV vs [v]) H2 Q (WE W σ)) er1 q1 fun d v H2 G2 x2 r2 er2 q2 => ?_
  have l1 : vs.length = (y :: xs).length := by rw [ras_len r1, evs_len e1, hl2]
  refine ⟨by omega, rfl, h6 vs v H2 Q (WE W σ) ?_⟩
  have rr := (ras_still r1).mono x2.stl
  refine ⟨G2, ds ++ [d], er2.sub, by rw [List.length_append, l1, hl]; rfl, ?_, ?_⟩
  · rw [h5]
    exact ras_false (rr.append (.cons r2 .nil))
  · cases hF : P.F k (ds ++ [d]) with
    | ok d => rw [hF] at q2; rw [hf]; exact q2
    | exc c x => rw [hF] at q2; exact q2
    | bad => rw [hF] at q2; exact q2
theorem PE.nil0 {vs : List V} {H G : Hp} {K : PySem.W.Frag} {d : Dat} {ws : List Bool} (r : RAs K H G ws vs [d]) : ∃ v, vs = [v] := by
  cases r with | cons _ t => cases t; exact ⟨_, rfl⟩
theorem s_bi {f : Bi} {np : Pos} {xs : List Expr} {es : Es} (g : Gd X T P n W) (hg : glB X.env.scope (nmB f) = true) (ho : okN (nmB f) = true) (hp : plains (y :: xs) = true) (h : PA X (y :: xs) (tA X P W [true, true] es)) :
    PE X (.Call (.Name (nmB f) np) (y :: xs) [] pos) (tK X P W (kd T (.bi f es)) (.bi f es)) := by
  have hp' := hp
  unfold plains at hp'
  rw [List.all_cons, Bool.and_eq_true] at hp'
  have hg' : X.env.scope.names.lookup (nmB f) = some .globalImplicit := of_decide_eq_true hg
  have hm : X.mg (nmB f) = none := g.blt _ (by cases f <;> simp [bltN, nmB])
  by_cases hL : f = .list
  · subst hL
    have hv : bootBuiltins (nmB .list) = some (.type "list") := boot_bi .list
    refine PE.imp (pe_callTy call_listN hg' hm hv h (okN_n ho) (okN_d ho) (star_cons hp'.1) (no_star hp'.2)) fun σ H Q ⟨B, G, ρ, er, q⟩ => ?_
    simp only [ev] at q
    refine bndAE (Q' := fun vs H1 => rListN X.K vs H1 Q) er q fun ds vs H1 G1 e1 x1 r1 er1 q1 => ?_
    cases hF : biD .list ds with
    | ok d =>
      rw [hF] at q1
      have key : ∃ e rs, ds = [e] ∧ d = .list rs := by
        rcases biD1 hF with ⟨e, rfl⟩ | ⟨e, e', rfl⟩
        · cases e <;> simp only [biD] at hF <;> cases hF <;> exact ⟨_, _, rfl, rfl⟩
        · cases e <;> simp only [biD] at hF <;> cases hF
      obtain ⟨e, rs, rfl, rfl⟩ := key
      exact ⟨G1, e, rs, er1.sub, ras_weak r1, hF, New.of2 q1⟩
    | exc c x => exact absurd hF (bi_ne _ _ _ _)
    | bad => rw [hF] at q1; exact q1.elim
  · by_cases hS : f = .sorted
    · subst hS
      have hv : bootBuiltins (nmB .sorted) = some (.builtin "sorted") := boot_bi .sorted
      refine PE.imp (pe_callB (call_sortedN g.calm (by have := g.room.un; omega)) hg' hm hv h (okN_n ho) (okN_d ho) (star_cons hp'.1) (no_star hp'.2)) fun σ H Q ⟨B, G, ρ, er, q⟩ => ?_
      simp only [ev] at q
      refine bndAE (Q' := fun vs H1 => rSortN X.K vs H1 Q) er q fun ds vs H1 G1 e1 x1 r1 er1 q1 => ?_
      cases hF : biD .sorted ds with
      | ok d =>
        rw [hF] at q1
        have key : ∃ e rs, ds = [e] ∧ d = .list rs := by
          rcases biD1 hF with ⟨e, rfl⟩ | ⟨e, e', rfl⟩
          · cases e <;> simp only [biD, sortD] at hF <;> try (cases hF; done)
            split at hF
            · split at hF <;> cases hF
              exact ⟨_, _, rfl, rfl⟩
            · unfold sortND at hF
              split at hF
              · split at hF <;> cases hF
                exact ⟨_, _, rfl, rfl⟩
              · cases hF
          · cases e <;> simp only [biD] at hF <;> cases hF
        obtain ⟨e, rs, rfl, rfl⟩ := key
        exact ⟨G1, e, rs, er1.sub, ras_weak r1, hF, New.of2 q1⟩
      | exc c x => exact absurd hF (bi_ne _ _ _ _)
      | bad => rw [hF] at q1; exact q1.elim
    have hk : kd T (.bi f es) = 0 := by cases f <;> first | rfl | exact absurd rfl hL | exact absurd rfl hS
    rw [hk]
    have go : ∀ σ H Q, tK X P W 0 (.bi f es) σ H Q → tCB (rBi X.K f) (tA X P W [true, true] es) σ H Q := fun σ H Q ⟨B, G, ρ, er, q⟩ => by
      simp only [ev] at q
      refine bndAE (Q' := fun vs H1 => rBi X.K f vs H1 Q) er q fun ds vs H1 G1 e1 x1 r1 er1 q1 => ?_
      obtain ⟨r, hr, fin⟩ : ∃ r, biD f ds = .ok r ∧ Fin X.K H1 G1 Q r := by
        cases hF : biD f ds with
        | ok r => rw [hF] at q1; exact ⟨r, rfl, q1⟩
        | exc c x => exact absurd hF (bi_ne _ _ _ _)
        | bad => rw [hF] at q1; exact q1.elim
      exact ⟨G1, ds, r, er1.sub, ras_weak r1, hr, fin⟩
    have hc := call_bi (X := X) g.calm (by have := g.room.un; omega) f
    have hv := boot_bi f
    cases f <;> first
      | exact PE.imp (pe_callB hc hg' hm hv h (okN_n ho) (okN_d ho) (star_cons hp'.1) (no_star hp'.2)) go
      | exact PE.imp (pe_callTy hc hg' hm hv h (okN_n ho) (okN_d ho) (star_cons hp'.1) (no_star hp'.2)) go
theorem s_isi {t : Ty} {f nm : Str} {np np2 : Pos} (g : Gd X T P n W) (hf : f = ("isinstance" : Str)) (hn : nm = PySem.Str.ofString (nmT t)) (h1 : glB X.env.scope f = true) (h2 : glB X.env.scope nm = true) (ho : okN nm = true) (hp : plainE x = true)
    (ha : PE X x (tK X P W ka a)) : PE X (.Call (.Name f np) [x, .Name nm np2] [] pos) (tK X P W 0 (.isi t a)) := by
  subst hf hn
  have g1 : X.env.scope.names.lookup ("isinstance" : Str) = some .globalImplicit := of_decide_eq_true h1
  have g2 : X.env.scope.names.lookup (PySem.Str.ofString (nmT t)) = some .globalImplicit := of_decide_eq_true h2
  have hm : X.mg (PySem.Str.ofString (nmT t)) = none := g.blt _ (by cases t <;> decide +kernel)
  have hb : PE X (.Name (PySem.Str.ofString (nmT t)) np2) (tC (.ty (nmT t))) := pe_bltn g2 hm (boot_ty t) rfl (okN_n ho) (okN_d ho)
  refine PE.imp (pe_callB (call_isiD t) g1 (g.blt _ (by decide +kernel)) PyProof.Rows.boot_isinstance (pa_cons (weakE ha) (pa_cons hb pa_nil) (star_cons hp)) (by decide) (by decide) (star_cons hp) rfl) fun σ H Q ⟨B, G, ρ, er, q⟩ => ?_
  simp only [ev] at q
  refine bndE er q fun d v H1 G1 x1 r1 er1 q1 => ?_
  cases hF : isiD t d with
  | ok r => rw [hF] at q1; exact ⟨G1, d, v, r, er1.sub, rfl, r1, hF, Fin.flat er1.sub (Fin.of q1) (.bl r)⟩
  | exc c x => exact absurd hF (isi_ne _ _ _ _)
  | bad => rw [hF] at q1; exact q1.elim
theorem m0_str {m : M0} {d r : Dat} (h : m0D m d = .ok r) : ∃ s, d = .str s := by cases m <;> cases d <;> simp only [m0D] at h <;> first | exact ⟨_, rfl⟩ | cases h
theorem m1_str {m : M1} {d e r : Dat} (h : m1D m d e = .ok r) : ∃ s, d = .str s := by cases m <;> cases d <;> simp only [m1D] at h <;> first | exact ⟨_, rfl⟩ | cases h
theorem s_m0 {m : M0} {apos : Pos} (hb : baseE x = true) (hl : (apos.endLine == pos.line) = true) (ha : PE X x (tK X P W ka a)) : PE X (.Call (.Attribute x (nm0 m) apos) [] [] pos) (tK X P W 0 (.m0 m a)) :=
  PE.imp (pe_m0 (slot0 m) (type0 m) (mt0_data m) (weakE ha) (base_attr hb) hl) fun σ H Q ⟨B, G, ρ, er, q⟩ => by
    simp only [ev] at q
    refine bndE er q fun d v H1 G1 x1 r1 er1 q1 => ?_
    obtain ⟨r, hr, fin⟩ := q1.op (m0_ne m d)
    obtain ⟨s, rfl⟩ := m0_str hr
    have := RW.str r1; subst this
    exact ⟨⟨_, rfl⟩, rfl, G1, _, r, er1.sub, r1, hr, fin⟩
theorem star1 {env : Env} (hp : plainE y = true) : starEach [y] env = [(false, eval y env)] := star_cons hp
theorem s_m1 {m : M1} {apos : Pos} (hb : baseE x = true) (hp : plainE y = true) (hl : (apos.endLine == pos.line) = true) (ha : PE X x (tK X P W ka a)) (hy : PE X y (tK X P W kb b)) : PE X (.Call (.Attribute x (nm1 m) apos) [y] [] pos) (tK X P W (kd T (.m1 m a b)) (.m1 m a b)) := by
  by_cases hS : m = .split
  · subst hS
    refine PE.imp (pe_m1 (slot1 .split) (type1 .split) mt_splitN (weakE ha) (weakE hy) (star1 hp) (base_attr hb) hl) fun σ H Q ⟨B, G, ρ, er, q⟩ => ?_
    simp only [ev] at q
    refine bndE er q fun d v H1 G1 x1 r1 er1 q1 => ?_
    cases d with
    | str s =>
      have := RW.str r1; subst this
      refine ⟨⟨_, rfl⟩, bndE er1 q1 fun e w H2 G2 x2 r2 er2 q2 => ?_⟩
      cases e <;> simp only [m1D] at q2 <;> try (exact q2.elim)
      split at q2
      · rename_i hz
        have := RW.str r2; subst this
        exact ⟨G2, _, _, er2.sub, rfl, rfl, hz.1, hz.2, New.of2 q2⟩
      · exact q2.elim
    | _ => exact q1.elim
  · have hk : kd T (.m1 m a b) = 0 := by cases m <;> first | rfl | exact absurd rfl hS
    rw [hk]
    refine PE.imp (pe_m1 (slot1 m) (type1 m) (mt1_data m) (weakE ha) (weakE hy) (star1 hp) (base_attr hb) hl) fun σ H Q ⟨B, G, ρ, er, q⟩ => ?_
    simp only [ev] at q
    refine bndE er q fun d v H1 G1 x1 r1 er1 q1 => ?_
    cases d with
    | str s =>
      have := RW.str r1; subst this
      refine ⟨⟨_, rfl⟩, bndE er1 q1 fun e w H2 G2 x2 r2 er2 q2 => ?_⟩
      obtain ⟨r, hr, fin⟩ := EndE.op (f := fun e => m1D m (.str s) e) q2 (m1_ne m _ e)
      exact ⟨G2, _, w, e, r, er2.sub, rfl, RW.ext x2 r1, r2, hr, fin⟩
    | _ => exact q1.elim

/-! ### targets -/
/-! ### dicts that stay -/
theorem lk_valV {K : PySem.W.Frag} {G : Hp} {x : Str} : ∀ {kvs : List (Key × V)} {ds : List (Dat × Dat)}, Repd K G kvs ds →
    (∃ v d, valV kvs (.inr x) = some v ∧ lkD ds x = some d ∧ Rep K G v d) ∨ (valV kvs (.inr x) = none ∧ lkD ds x = none)
  | _, _, .nil => .inr ⟨rfl, rfl⟩
  | _, _, .int (i := i) (ds := ds) r t => by
    rcases lk_valV (x := x) t with ⟨v, d, h1, h2, h3⟩ | ⟨h1, h2⟩
    · exact .inl ⟨v, d, by rw [valV_neg (by simp)]; exact h1, by simp only [lkD]; exact h2, h3⟩
    · exact .inr ⟨by rw [valV_neg (by simp)]; exact h1, by simp only [lkD]; exact h2⟩
  | _, _, .str (x := y) (ds := ds) r t => by
    by_cases e : y = x
    · subst e
      exact .inl ⟨_, _, valV_pos rfl, by simp [lkD], r⟩
    · have ne : ¬ (Sum.inr y : Key) = .inr x := fun z => e (Sum.inr.inj z)
      rcases lk_valV (x := x) t with ⟨v, d, h1, h2, h3⟩ | ⟨h1, h2⟩
      · exact .inl ⟨v, d, by rw [valV_neg ne]; exact h1, by simp only [lkD, if_neg e]; exact h2, h3⟩
      · exact .inr ⟨by rw [valV_neg ne]; exact h1, by simp only [lkD, if_neg e]; exact h2⟩
theorem star2 {env : Env} (h1 : plainE y = true) (h2 : plainE z = true) : starEach [y, z] env = [(false, eval y env), (false, eval z env)] := by
  rw [star_cons h1, star_cons h2]; rfl
theorem m2_of {m : Str} {apos : Pos} (hb : baseE x = true) (h1 : plainE y = true) (h2 : plainE z = true) (hl : (apos.endLine == pos.line) = true) : M2 X x m apos y z pos :=
  ⟨base_attr hb, by rw [star2 h1 h2]; rfl, hl, by rw [star2 h1 h2]; rfl⟩
theorem s_dc0 : PE X (.Dict [] [] pos) (tK X P W 0 .dc0) :=
  PE.imp pe_dnewK fun σ H Q ⟨B, G, ρ, er, q⟩ p np => by
    simp only [ev] at q
    have := Fin.of q
    exact this _ _ (upd G p (.dK [])) (Ext.made er.sub np _) (.dct (.inl upd_same) .nil)
theorem s_dc1 (h1 : kb ≠ 1) (ha : PE X x (tK X P W ka a)) (hb : PE X y (tK X P W kb b)) : PE X (.Dict [some x] [y] pos) (tK X P W 0 (.dc1 a b)) :=
  PE.imp (pe_disp (pps_cons (weakE ha) (stillE h1 hb) pps_nil) rfl rfl (by simp) (by simp)) fun σ H Q ⟨B, G, ρ, er, q⟩ p np => by
    simp only [ev] at q
    have x0 : Ext H G (upd H p (.dK [])) G := Ext.laid er.sub np _
    have er0 := er.ext x0
    refine ⟨B, G, ρ, er0, ?_⟩
    cases qa : ev P a ρ with
    | bad => rw [qa] at q; exact q
    | exc c z =>
      rw [qa] at q
      exact fun cls dx H' G' x1 r => q cls dx H' G' (x0.trans x1) r
    | ok d =>
      rw [qa] at q
      simp only [ok_bind] at q
      intro v H1 G1 x1 r1
      cases d with
      | str s =>
        have := RW.str r1; subst this
        simp only [strD, ok_bind] at q
        refine ⟨B, G1, ρ, er0.ext x1, ?_⟩
        cases qb : ev P b ρ with
        | bad => rw [qb] at q; exact q
        | exc c z =>
          rw [qb] at q
          exact fun cls dx H' G' x2 r => q cls dx H' G' ((x0.trans x1).trans x2) r
        | ok e =>
          rw [qb] at q
          simp only [ok_bind] at q
          intro w H2 G2 x2 r2
          have xx := (x0.trans x1).trans x2
          have hp : H2 p = some (.dK []) := x2.all _ _ (x1.all _ _ upd_same)
          have gp : G2 p = none := by
            cases z : G2 p with
            | none => rfl
            | some o =>
              rcases (x1.trans x2).new p (by rw [z]; simp) with y | y
              · exact absurd (er.sub.free np) y
              · rw [upd_same] at y; cases y
          refine ⟨hp, [(.inr s, w)], rfl, by simp, ?_⟩
          have e0 : mergeK [] [((.inr s : Key), w)] = [(.inr s, w)] := rfl
          rw [e0]
          refine q _ _ (upd G2 p (.dK [(.inr s, w)])) ⟨fun b u e => ?_, fun b u e => ?_, fun b u e => ?_, fun b e => ?_⟩ (.dct (.inl upd_same) (.str (r2.mono fun b u e => ?_) .nil))
          · rw [upd_ne (ne_of_none e np)]; exact xx.all _ _ e
          · rw [upd_ne (ne_of_none (xx.stl _ _ e) gp)]; exact xx.stl _ _ e
          · by_cases hb : b = p
            · subst hb; rw [upd_same] at e ⊢; exact e
            · rw [upd_ne hb] at e ⊢; exact xx.sub _ _ e
          · by_cases hb : b = p
            · subst hb; exact .inr np
            · rw [upd_ne hb] at e; exact xx.new _ e
          · rw [upd_ne (ne_of_none e gp)]; exact e
      | _ => exact q.elim
theorem s_dget (hr : X.A.units + 1 < cLine) (h0 : ka ≠ 1) (h1 : kc ≠ 1) {apos : Pos} (hb : baseE x = true) (hp : plainE y = true) (hp2 : plainE z = true) (hl : (apos.endLine == pos.line) = true) (ha : PE X x (tK X P W ka a)) (hy : PE X y (tK X P W kb b)) (hz : PE X z (tK X P W kc c)) :
    PE X (.Call (.Attribute x "get" apos) [y, z] [] pos) (tK X P W 0 (.dget a b c)) :=
  PE.imp (pe_dget2 hr (stillE h0 ha) (weakE hy) (stillE h1 hz) (m2_of hb hp hp2 hl)) fun σ H Q ⟨B, G, ρ, er, q⟩ => by
    simp only [ev] at q
    refine bndE er q fun d v H1 G1 x1 r1 er1 q1 => ?_
    cases d with
    | dict kvs =>
      simp only [isDct, ok_bind] at q1
      cases r1 with
      | dct hR hr =>
        refine ⟨_, rfl, .inl ⟨_, rd_keep er1.sub hR⟩, bndE er1 q1 fun e w H2 G2 x2 r2 er2 q2 => ?_⟩
        cases e with
        | str s =>
          have := RW.str r2; subst this
          simp only [strD, ok_bind] at q2
          refine bndE er2 q2 fun e w H3 G3 x3 r3 er3 q3 => ?_
          refine ⟨_, .inl ⟨_, .inr s, rd_keep (x2.trans x3).all (rd_keep er1.sub hR), rfl, rfl⟩, ?_⟩
          rcases lk_valV (x := s) hr with ⟨v, d, e1, e2, e3⟩ | ⟨e1, e2⟩
          · rw [e1]
            rw [e2] at q3
            exact Fin.flat er3.sub (Fin.of q3) (e3.mono (x2.trans x3).stl)
          · rw [e1]
            rw [e2] at q3
            exact Fin.flat er3.sub (Fin.of q3) r3
        | _ => exact q2.elim
    | _ => exact q1.elim
theorem loc_of {N : List Str} {sc : Scope} {x : Str} (h : locB sc x = true) : sc.names.lookup x = some .local := of_decide_eq_true h
theorem getD_set {ρ : En} : True := trivial
theorem ER.set {B H G : Hp} {ρ : En} {σ : L2.St} {v : V} {d : Dat} (er : ER X.K B ρ σ H G) (r : Rep X.K G v d) (i : Nat) : ER X.K B (ρ.set i (.fz d)) (σ.set i (some v)) H G := by
  refine ⟨er.bas, er.sub, by simp [er.len], fun j s e => ?_⟩
  by_cases h : i = j
  · subst h
    have hi : i < ρ.length := by
      have := (List.getElem?_eq_some_iff.mp e).1
      simpa using this
    rw [List.getElem?_set_self hi] at e
    cases e
    exact ⟨some v, List.getElem?_set_self (by rw [← er.len]; exact hi), v, rfl, r⟩
  · rw [List.getElem?_set_ne h] at e
    obtain ⟨o, h1, h2⟩ := er.at_ j s e
    exact ⟨o, by rw [List.getElem?_set_ne h]; exact h1, h2⟩
/-- a tuple's items, one by one -/
def gAll : List Nat → TGs
  | [] => gNil
  | i :: r => gCons (gName i) (gAll r)
theorem pgs_all {nd : X.N.Nodup} : ∀ {is : List Nat} {es : List Expr}, is.length = es.length → ((is.zip es).all fun p => match p.2 with
    | .Name x _ => decide (X.N[p.1]? = some x) && locB X.env.scope x
    | _ => false) = true → PGs X es (gAll is) ∧ (assignEach es X.env).length = is.length ∧ (assignEach es X.env).findIdx? (·.1) = none
  | [], [], _, _ => ⟨pgs_nil, rfl, rfl⟩
  | [], _ :: _, h, _ => by simp at h
  | _ :: _, [], h, _ => by simp at h
  | i :: is, e :: es, hl, h => by
    rw [List.zip_cons_cons, List.all_cons, Bool.and_eq_true] at h
    obtain ⟨i1, i2, i3⟩ := pgs_all (nd := nd) (is := is) (es := es) (by simpa using hl) h.2
    cases e <;> try (exact absurd h.1 Bool.false_ne_true)
    rename_i x p
    have h1 : X.N[i]? = some x ∧ locB X.env.scope x = true := by simpa using h.1
    refine ⟨pgs_cons (pg_name nd h1.1 (.inl (loc_of (N := X.N) h1.2)) (.inr (loc_of (N := X.N) h1.2))) i1 rfl, ?_, ?_⟩
    · show (assignEach es X.env).length + 1 = is.length + 1
      rw [i2]
    · show List.findIdx? (·.1) ((false, _) :: assignEach es X.env) = none
      rw [List.findIdx?_cons, i3]
      rfl
/-- a target's reading -/
def tG (K : PySem.W.Frag) : Tg → TG
  | .nm i => gName i
  | .tp is => gTup K is.length (gAll is)
theorem s_g {tg : Tg} (calm : X.calm = true) (nd : X.N.Nodup) (h : okG X.N X.env.scope tg x = true) : PG X x (tG X.K tg) := by
  cases tg with
  | nm i =>
    cases x <;> simp only [okG] at h <;> try (cases h; done)
    simp only [Bool.and_eq_true, decide_eq_true_eq] at h
    exact pg_name nd h.1 (.inl (loc_of (N := X.N) h.2)) (.inr (loc_of (N := X.N) h.2))
  | tp is =>
    cases x <;> simp only [okG] at h <;> try (cases h; done)
    rename_i es k p
    rw [Bool.and_eq_true] at h
    obtain ⟨i1, i2, i3⟩ := pgs_all (nd := nd) (of_decide_eq_true h.1) h.2
    exact pg_tup calm i1 i2 i3
/-- what a target does -/
theorem all_set {B H G : Hp} {Q : L2.St → Hp → Prop} : ∀ {is : List Nat} {vs : List V} {ds : List Dat} {ρ : En} {σ : L2.St}, ER X.K B ρ σ H G → Reps X.K G vs ds → ds.length = is.length →
    (∀ σ', ER X.K B ((is.zip ds).foldl (fun r p => r.set p.1 (.fz p.2)) ρ) σ' H G → (∀ j, j ∉ is → σ'[j]? = σ[j]?) → σ'.length = σ.length → Q σ' H) → gAll is vs σ H Q
  | [], vs, ds, ρ, σ, er, r, hl, c => by
    cases ds with
    | nil => cases r; exact ⟨rfl, c σ er (fun _ _ => rfl) rfl⟩
    | cons _ _ => simp at hl
  | i :: is, vs, ds, ρ, σ, er, r, hl, c => by
    cases ds with
    | nil => simp at hl
    | cons d ds =>
      cases r with
      | cons r t =>
        refine ⟨_, _, rfl, ?_⟩
        refine all_set (er.set r i) t (by simpa using hl) fun σ' er' k1 k2 => c σ' er' (fun j hj => ?_) (by rw [k2, List.length_set])
        rw [List.mem_cons, not_or] at hj
        rw [k1 j hj.2, List.getElem?_set_ne (fun e => hj.1 e.symm)]
/-- a slot that a target leaves -/
def tgNo (tg : Tg) (j : Nat) : Prop := match tg with
  | .nm i => j ≠ i
  | .tp is => j ∉ is
theorem g_set {B H G : Hp} {tg : Tg} {v : V} {d : Dat} {ρ ρ1 : En} {σ : L2.St} {Q : L2.St → Hp → Prop} (er : ER X.K B ρ σ H G) (r : Rep X.K G v d) (h : setT tg d ρ = .ok ρ1)
    (c : ∀ σ', ER X.K B ρ1 σ' H G → (∀ j, tgNo tg j → σ'[j]? = σ[j]?) → σ'.length = σ.length → Q σ' H) : tG X.K tg v σ H Q := by
  cases tg with
  | nm i =>
    simp only [setT] at h
    cases h
    exact c _ (er.set r i) (fun j hj => List.getElem?_set_ne (fun e => (show j ≠ i from hj) e.symm)) (List.length_set)
  | tp is =>
    cases d <;> simp only [setT] at h <;> try (cases h; done)
    rename_i ds
    split at h <;> cases h
    rename_i hl
    cases r with
    | tup q rr =>
      refine ⟨_, _, rfl, sqT_keep er.sub q, by rw [rr.length, hl], ?_⟩
      exact all_set er rr hl c
end
end NW
end

section
set_option maxHeartbeats 4000000
namespace NW
open PySem PySem.Spec PyProof.Rows L2

/-! ### what is walked -/
theorem ylds_list {K : PySem.W.Frag} {B G : Hp} {a : Addr} {vs : List V} {ds : List Dat} (q : SqL K G a vs) (r : Reps K G vs ds) : Ylds K B G (Itl K a) ds where
  go := fun i H G1 hi _ s1 s2 => by
    have hv : i < vs.length := by rw [r.length]; exact hi
    exact ⟨vs, vs[i], sqL_keep (s1.trans s2) q, by simp [hv]⟩
  stop := fun H G1 _ s1 s2 => ⟨vs, sqL_keep (s1.trans s2) q, by rw [r.length]; exact Nat.le_refl _⟩
  yld := fun i H G1 x H' hi _ s1 s2 y => by
    obtain ⟨e, y⟩ := y
    subst e
    obtain ⟨d, h1, h2⟩ := r.getV (y vs (sqL_keep (s1.trans s2) q))
    exact ⟨d, G1, h1, Ext.refl s2, h2.mono s1⟩
theorem ylds_lent {K : PySem.W.Frag} {B G : Hp} {a : Addr} {vs : List V} {ds : List Dat} (q : SqL K B a vs) (r : Reps K G vs ds) : Ylds K B G (Itl K a) ds where
  go := fun i H G1 hi s0 s1 s2 => by
    have hv : i < vs.length := by rw [r.length]; exact hi
    exact ⟨vs, vs[i], sqL_keep s0 q, by simp [hv]⟩
  stop := fun H G1 s0 s1 s2 => ⟨vs, sqL_keep s0 q, by rw [r.length]; exact Nat.le_refl _⟩
  yld := fun i H G1 x H' hi s0 s1 s2 y => by
    obtain ⟨e, y⟩ := y
    subst e
    obtain ⟨d, h1, h2⟩ := r.getV (y vs (sqL_keep s0 q))
    exact ⟨d, G1, h1, Ext.refl s2, h2.mono s1⟩
theorem ylds_tup {K : PySem.W.Frag} {B G : Hp} {a : Addr} {vs : List V} {ds : List Dat} (q : SqT K G a vs) (r : Reps K G vs ds) : Ylds K B G (Itt K a) ds where
  go := fun i H G1 hi _ s1 s2 => by
    have hv : i < vs.length := by rw [r.length]; exact hi
    exact ⟨vs, vs[i], sqT_keep (s1.trans s2) q, by simp [hv]⟩
  stop := fun H G1 _ s1 s2 => ⟨vs, sqT_keep (s1.trans s2) q, by rw [r.length]; exact Nat.le_refl _⟩
  yld := fun i H G1 x H' hi _ s1 s2 y => by
    obtain ⟨e, y⟩ := y
    subst e
    obtain ⟨d, h1, h2⟩ := r.getV (y vs (sqT_keep (s1.trans s2) q))
    exact ⟨d, G1, h1, Ext.refl s2, h2.mono s1⟩
theorem ylds_str {K : PySem.W.Frag} {B G : Hp} (x : Str) : Ylds K B G (Its x) (x.cps.toList.map fun c => PyData.str ⟨#[c]⟩) where
  go := fun i H G1 hi _ s1 s2 => by
    show i < x.cps.size
    simpa using hi
  stop := fun H G1 _ s1 s2 => by
    show x.cps.size ≤ _
    simp
  yld := fun i H G1 v H' hi _ s1 s2 y => by
    obtain ⟨e, c, hc, rfl⟩ := y
    subst e
    refine ⟨.str ⟨#[c]⟩, G1, ?_, Ext.refl s2, .str _⟩
    simp [hc]
theorem ylds_rng {K : PySem.W.Frag} {B G : Hp} (a : Int) (n : Nat) : Ylds K B G (Itr a n) (rngL a n) where
  go := fun i H G1 hi _ s1 s2 => by
    show i < n
    simpa [rngL] using hi
  stop := fun H G1 _ s1 s2 => by
    show n ≤ _
    simp [rngL]
  yld := fun i H G1 v H' hi _ s1 s2 y => by
    obtain ⟨e, rfl⟩ := y
    subst e
    have h : i < n := by simpa [rngL] using hi
    exact ⟨.int (a + i), G1, by simp [rngL, h], Ext.refl s2, .int _⟩
theorem PI.imp {X : Cx} {tg e : Expr} {t t' : TI} (h : PI X tg e t) (i : ∀ σ H R, t' σ H R → t σ H R) : PI X tg e t' := ⟨fun pins s σ H R I q => h.run pins s σ H R I (i σ H R q)⟩
theorem PI.or {X : Cx} {tg e : Expr} {t t' : TI} (h : PI X tg e t) (h' : PI X tg e t') : PI X tg e (fun σ H R => t σ H R ∨ t' σ H R) :=
  ⟨fun pins s σ H R I q => q.elim (h.run pins s σ H R I) (h'.run pins s σ H R I)⟩
section
variable {X : Cx} {T : Tx} {P : Pg} {n : Nat} {W : WX} {x y z tg : Expr} {pos : Pos} {a b c : E} {ka kb kc : Nat}
theorem s_seq (hk : ka ≠ 1) (ha : PE X x (tK X P W ka a)) : PI X tg x (tI X P W (.seq a)) := by
  have hs := stillE hk ha
  refine PI.imp (PI.or (pi_list hs) (PI.or (pi_tup hs) (pi_str hs))) fun σ H R ⟨B, G, ρ, er, q⟩ => ?_
  simp only [evI] at q
  cases e : ev P a ρ with
  | bad => rw [e] at q; exact q.elim
  | exc c z =>
    rw [e] at q
    refine .inl (show tK X P W 0 a σ H _ from ⟨B, G, ρ, er, ?_⟩)
    rw [e]
    exact q
  | ok d =>
    rw [e] at q
    cases d with
    | list ds =>
      refine .inl (show tK X P W 0 a σ H _ from ⟨B, G, ρ, er, ?_⟩)
      rw [e]
      intro v H' G' x1 r1
      obtain ⟨p, vs, rfl, q1, rr⟩ := RW.list x1.sub (.st r1)
      have r1' : Rep X.K G' (.ref p) (.list ds) := r1
      cases r1' with
      | lst q2 r2 => exact ⟨p, rfl, ⟨vs, q1⟩, q _ H' G' x1 (ylds_list q2 r2)⟩
    | tuple ds =>
      refine .inr (.inl (show tK X P W 0 a σ H _ from ⟨B, G, ρ, er, ?_⟩))
      rw [e]
      intro v H' G' x1 r1
      have r1' : Rep X.K G' v (.tuple ds) := r1
      cases r1' with
      | tup q2 r2 => exact ⟨_, rfl, ⟨_, sqT_keep x1.sub q2⟩, q _ H' G' x1 (ylds_tup q2 r2)⟩
    | str s =>
      refine .inr (.inr (show tK X P W 0 a σ H _ from ⟨B, G, ρ, er, ?_⟩))
      rw [e]
      intro v H' G' x1 r1
      have r1' : Rep X.K G' v (.str s) := r1
      cases r1' with
      | str => exact ⟨s, rfl, q _ H' G' x1 (ylds_str s)⟩
    | _ => exact q.elim
theorem s_lent {i : Nat} {nm : Str} (h : okI T n X.N X.env.scope (.lent i) (.Name nm pos) = true) : PI X tg (.Name nm pos) (tI X P W (.lent i)) := by
  simp only [okI, Bool.and_eq_true, decide_eq_true_eq] at h
  refine PI.imp (pi_list (pe_var h.1.1 (vis_of h.1.2) (okN_d h.2) (okN_c h.2))) fun σ H R ⟨B, G, ρ, er, q⟩ => ?_
  simp only [evI] at q
  cases e : getS ρ i with
  | ln ds =>
    rw [e] at q
    obtain ⟨o, h1, p, vs, rfl, h2, r⟩ := er.at_ i _ (getS_some e nofun)
    exact ⟨_, h1, p, rfl, ⟨vs, sqL_keep er.bas h2⟩, q _ H G (Ext.refl er.sub) (ylds_lent h2 r)⟩
  | un => rw [e] at q; exact q.elim
  | ow _ => rw [e] at q; exact q.elim
  | fz _ => rw [e] at q; exact q.elim
  | ex _ _ _ _ => rw [e] at q; exact q.elim
theorem s_own {i : Nat} {nm : Str} (h : okI T n X.N X.env.scope (.own i) (.Name nm pos) = true) : PI X tg (.Name nm pos) (tI X P W (.own i)) := by
  simp only [okI, Bool.and_eq_true, decide_eq_true_eq] at h
  refine PI.imp (pi_list (pe_var h.1.1 (vis_of h.1.2) (okN_d h.2) (okN_c h.2))) fun σ H R ⟨B, G, ρ, er, q⟩ => ?_
  simp only [evI] at q
  cases e : getS ρ i with
  | ow ds =>
    rw [e] at q
    obtain ⟨o, h1, p, vs, rfl, h2, ga, r⟩ := er.at_ i _ (getS_some e nofun)
    exact ⟨_, h1, p, rfl, ⟨vs, SqL.of h2⟩, q _ H G (Ext.refl er.sub) (ylds_lent (SqL.of h2) r)⟩
  | un => rw [e] at q; exact q.elim
  | ln _ => rw [e] at q; exact q.elim
  | fz _ => rw [e] at q; exact q.elim
  | ex _ _ _ _ => rw [e] at q; exact q.elim
theorem s_rng1 {f : Str} {np : Pos} (g : Gd X T P n W) (hf : f = ("range" : Str)) (h1 : glB X.env.scope f = true) (hp : plainE x = true) (ha : PE X x (tK X P W ka a)) : PI X tg (.Call (.Name f np) [x] [] pos) (tI X P W (.rng1 a)) := by
  subst hf
  have g1 : X.env.scope.names.lookup ("range" : Str) = some .globalImplicit := of_decide_eq_true h1
  refine PI.imp (pi_range1 g1 (g.blt _ (by decide +kernel)) (pa_cons (weakE ha) pa_nil (star_cons hp)) (star1 hp)) fun σ H R ⟨B, G, ρ, er, q⟩ => ?_
  simp only [evI] at q
  refine bndI er q fun d v H1 G1 x1 r1 er1 q1 => ?_
  cases d with
  | int j =>
    have := RW.int r1; subst this
    simp only at q1
    split at q1
    · rename_i hz
      unfold small62 at hz
      have hz := of_decide_eq_true hz
      exact ⟨j, rfl, hz.1, hz.2, q1 _ H1 G1 (Ext.refl er1.sub) (ylds_rng 0 j.toNat)⟩
    · exact q1.elim
  | _ => exact q1.elim
theorem s_rng2 {f : Str} {np : Pos} (g : Gd X T P n W) (hf : f = ("range" : Str)) (h1 : glB X.env.scope f = true) (hp : plainE x = true) (hp2 : plainE y = true) (ha : PE X x (tK X P W ka a)) (hb : PE X y (tK X P W kb b)) : PI X tg (.Call (.Name f np) [x, y] [] pos) (tI X P W (.rng2 a b)) := by
  subst hf
  have g1 : X.env.scope.names.lookup ("range" : Str) = some .globalImplicit := of_decide_eq_true h1
  refine PI.imp (pi_range2 g1 (g.blt _ (by decide +kernel)) (pa_cons (weakE ha) (pa_cons (weakE hb) pa_nil (star_cons hp2)) (star_cons hp)) (by rw [star_cons hp, star_cons hp2]; rfl) (star1 hp2)) fun σ H R ⟨B, G, ρ, er, q⟩ => ?_
  simp only [evI] at q
  refine bndI er q fun d v H1 G1 x1 r1 er1 q1 => ?_
  refine bndI er1 q1 fun e w H2 G2 x2 r2 er2 q2 => ?_
  cases d with
  | int i =>
    cases e with
    | int j =>
      have := RW.int r1; subst this
      have := RW.int r2; subst this
      simp only at q2
      split at q2
      · rename_i hz
        have hz := Bool.and_eq_true_iff.mp hz
        unfold small62 at hz
        have h3 := of_decide_eq_true hz.1
        have h4 := of_decide_eq_true hz.2
        exact ⟨i, j, rfl, ⟨h3.1, h3.2, h4.1, h4.2⟩, q2 _ H2 G2 (Ext.refl er2.sub) (ylds_rng i (j - i).toNat)⟩
      · exact q2.elim
    | _ => exact q2.elim
  | _ => cases e <;> exact q2.elim

/-! ### comprehensions -/
theorem wipe_get (σ : L2.St) : ∀ (vs : List Nat) (j : Nat), (wipe σ vs)[j]? = if j ∈ vs ∧ j < σ.length then some none else σ[j]?
  | [], j => by simp [wipe]
  | v :: vs, j => by
    unfold wipe
    have hl := wipe_length σ vs
    by_cases h : v = j
    · subst h
      by_cases hj : v < σ.length
      · rw [List.getElem?_set_self (by rw [hl]; exact hj), if_pos ⟨List.mem_cons_self, hj⟩]
      · rw [List.getElem?_eq_none (by rw [List.length_set, hl]; omega), if_neg (fun z => hj z.2), List.getElem?_eq_none (by omega)]
    · rw [List.getElem?_set_ne h, wipe_get σ vs j]
      have e : (j ∈ v :: vs ∧ j < σ.length) ↔ (j ∈ vs ∧ j < σ.length) := by
        rw [List.mem_cons]
        constructor
        · rintro ⟨z | z, k⟩
          · exact absurd z.symm h
          · exact ⟨z, k⟩
        · rintro ⟨z, k⟩; exact ⟨.inr z, k⟩
      simp only [e]
theorem unS_get (ρ : En) : ∀ (vs : List Nat) (j : Nat), (unS vs ρ)[j]? = if j ∈ vs ∧ j < ρ.length then some .un else ρ[j]?
  | [], j => by simp [unS]
  | v :: vs, j => by
    unfold unS
    have hl : ∀ vs : List Nat, (unS vs ρ).length = ρ.length := fun vs => by
      induction vs with
      | nil => rfl
      | cons v vs ih => unfold unS; rw [List.length_set, ih]
    by_cases h : v = j
    · subst h
      by_cases hj : v < ρ.length
      · rw [List.getElem?_set_self (by rw [hl]; exact hj), if_pos ⟨List.mem_cons_self, hj⟩]
      · rw [List.getElem?_eq_none (by rw [List.length_set, hl]; omega), if_neg (fun z => hj z.2), List.getElem?_eq_none (by omega)]
    · rw [List.getElem?_set_ne h, unS_get ρ vs j]
      have e : (j ∈ v :: vs ∧ j < ρ.length) ↔ (j ∈ vs ∧ j < ρ.length) := by
        rw [List.mem_cons]
        constructor
        · rintro ⟨z | z, k⟩
          · exact absurd z.symm h
          · exact ⟨z, k⟩
        · rintro ⟨z, k⟩; exact ⟨.inr z, k⟩
      simp only [e]
theorem unS_length (ρ : En) (vs : List Nat) : (unS vs ρ).length = ρ.length := by
  induction vs with
  | nil => rfl
  | cons v vs ih => unfold unS; rw [List.length_set, ih]
theorem ER.wipe {B H G : Hp} {ρ : En} {σ : L2.St} (er : ER X.K B ρ σ H G) (vs : List Nat) : ER X.K B (unS vs ρ) (wipe σ vs) H G := by
  refine ⟨er.bas, er.sub, by rw [unS_length, wipe_length, er.len], fun j s e => ?_⟩
  rw [unS_get] at e
  rw [wipe_get]
  by_cases h : j ∈ vs ∧ j < ρ.length
  · rw [if_pos h] at e
    cases e
    exact ⟨none, by rw [if_pos ⟨h.1, by rw [← er.len]; exact h.2⟩], trivial⟩
  · rw [if_neg h] at e
    rw [if_neg (by rw [← er.len]; exact h)]
    exact er.at_ j s e
theorem wipe_same {σ σ2 : L2.St} {vs : List Nat} (hl : σ2.length = σ.length) (h : ∀ j, j ∉ vs → σ2[j]? = (wipe σ vs)[j]?) : wipe σ2 vs = wipe σ vs := by
  refine List.ext_getElem? fun j => ?_
  rw [wipe_get]
  by_cases hj : j ∈ vs
  · rw [wipe_get]
    by_cases hz : j < σ.length
    · rw [if_pos ⟨hj, by omega⟩, if_pos ⟨hj, hz⟩]
    · rw [if_neg (fun z => hz (by omega)), if_neg (fun z => hz z.2), List.getElem?_eq_none (by omega), List.getElem?_eq_none (by omega)]
  · rw [if_neg (fun z => hj z.1)]
    exact h j hj
theorem lcL_ne {f : Dat → Res (Option Dat)} (hf : ∀ d c x, f d ≠ .exc c x) : ∀ (xs : List Dat) c x, lcL f xs ≠ .exc c x
  | [], c, x, h => by cases h
  | d :: ds, c, x, h => by
    simp only [lcL] at h
    cases q : f d with
    | ok o =>
      rw [q] at h
      cases q2 : lcL f ds with
      | ok r => simp only [ok_bind, q2] at h; cases h
      | exc c' x' => exact lcL_ne hf ds c' x' q2
      | bad => simp only [ok_bind, q2, bad_bind] at h; cases h
    | exc c' x' => exact hf _ _ _ q
    | bad => rw [q] at h; cases h
theorem lcL_cons {f : Dat → Res (Option Dat)} {d : Dat} {ds ys : List Dat} (h : lcL f (d :: ds) = .ok ys) : ∃ o r, f d = .ok o ∧ lcL f ds = .ok r ∧ ys = (match o with
    | some y => y :: r
    | none => r) := by
  simp only [lcL] at h
  cases q : f d with
  | ok o =>
    rw [q] at h
    cases q2 : lcL f ds with
    | ok r => simp only [ok_bind, q2] at h; cases h; exact ⟨o, r, rfl, rfl, rfl⟩
    | exc _ _ => simp only [ok_bind, q2] at h; cases h
    | bad => simp only [ok_bind, q2] at h; cases h
  | exc _ _ => rw [q] at h; cases h
  | bad => rw [q] at h; cases h
theorem noX_ne {α : Type} (r : Res α) (c : Str) (x : Option Dat) : noX r ≠ .exc c x := by cases r <;> intro h <;> cases h
theorem noX_ok' {α : Type} {r : Res α} {a : α} (h : noX r = .ok a) : r = .ok a := by cases r <;> cases h; rfl
theorem tg_in {own : List Nat} {tg : Tg} (h : tgIn own tg = true) {j : Nat} (hj : j ∉ own) : tgNo tg j := by
  cases tg with
  | nm i =>
    intro e
    subst e
    exact hj (by simpa [tgIn] using h)
  | tp is =>
    intro hm
    have h : is.all own.contains = true := h
    exact hj (by simpa using List.all_eq_true.mp h j hm)
/-- the test of a comprehension -/
def okIf (T : Tx) (n : Nat) (N : List Str) (sc : Scope) (tt : E) (ifs : List Expr) : Prop := match ifs with
  | [] => tt = .bl true
  | [c] => isIfe tt = false ∧ okE T n N sc tt c = true
  | _ => False
def tIfs (X : Cx) (P : Pg) (ifs : List Expr) (tt : E) : TT := match ifs with
  | [] => tYes
  | _ => tT X P (fun _ _ _ _ => False) tt
theorem c_lc {own : List Nat} {tg : Tg} {it : NW.It} {tt elt : E} {ifs : List Expr} {ke : Nat} (hin : tgIn own tg = true) (hk : ke ≠ 1) (hif : ifs = [] → tt = .bl true) (σ : L2.St) (H : Hp) (Q : VK) (h : tK X P W 2 (.lc own tg it tt elt) σ H Q) :
    tLc (tI X P W it) (tG X.K tg) (tIfs X P ifs tt) (tK X P (fun _ _ _ _ => False) ke elt) ((own.map fun i => (X.N.getD i "", i)).map (·.2)) σ H Q := by
  obtain ⟨B0, G, ρ, er0, q⟩ := h
  obtain ⟨B, hB, er⟩ : ∃ B, B = H ∧ ER X.K B ρ σ H G := ⟨H, rfl, er0.re⟩
  have eown : (own.map fun i => (X.N.getD i "", i)).map (·.2) = own := by
    rw [List.map_map]
    exact List.map_id' own
  rw [eown]
  simp only [ev] at q
  refine ⟨B, G, ρ, er, ?_⟩
  have hbi : bI it B H = B := by rw [hB, bI_self]
  rw [hbi]
  clear hbi hB
  cases qi : evI P it ρ with
  | exc c z => rw [qi] at q; exact q
  | bad => rw [qi] at q; exact q
  | ok xs =>
    rw [qi] at q
    simp only [ok_bind] at q
    split at q
    case isFalse => exact q.elim
    rename_i hz
    generalize hf : (fun x => noX (setT tg x (unS own ρ) >>= fun ρ1 => ev P tt ρ1 >>= fun t => truD t >>= fun r => match r with
        | true => ev P elt ρ1 >>= fun y => .ok (some y)
        | false => .ok none)) = f at q
    have hfn : ∀ d c x, f d ≠ .exc c x := fun d c x => by rw [← hf]; exact noX_ne _ _ _
    cases ql : lcL f xs with
    | exc c z => exact absurd ql (lcL_ne hfn xs c z)
    | bad => rw [ql] at q; exact q.elim
    | ok ys =>
      rw [ql] at q
      simp only [ok_bind] at q
      have fin := New.of2 (W := W) q
      clear q
      intro J H1 G1 x1 Y D nD
      have nGD : G1 D = none := x1.sub.free nD
      refine ⟨fun i m H' => m = xs.length - i ∧ i ≤ xs.length ∧ ∃ G' vs acc rest, Ext H1 G1 H' G' ∧ H' D = some (.lst vs) ∧ G' D = none ∧ Reps X.K G' vs acc ∧ vs.length ≤ i ∧ lcL f (xs.drop i) = .ok rest ∧ acc ++ rest = ys,
        ⟨xs.length, by simp, Nat.zero_le _, G1, [], [], ys, Ext.laid x1.sub nD _, upd_same, nGD, .nil, Nat.le_refl _, ql, rfl⟩, ?_⟩
      rintro i m H2 ⟨rfl, hi, G2, vs, acc, rest, x2, hD, gD, rr, hv, hl, hy⟩
      have er2 := er.ext (x1.trans x2)
      by_cases hlt : i < xs.length
      · refine .inr ⟨Y.go i H2 G2 hlt er2.bas x2.stl x2.sub, fun H' => i + 1 ≤ xs.length ∧ ∃ G' vs acc rest, Ext H1 G1 H' G' ∧ H' D = some (.lst vs) ∧ G' D = none ∧ Reps X.K G' vs acc ∧ vs.length ≤ i + 1 ∧ lcL f (xs.drop (i + 1)) = .ok rest ∧ acc ++ rest = ys,
          fun H' h => ⟨xs.length - (i + 1), by omega, rfl, h.1, h.2⟩, fun v H3 y => ?_⟩
        obtain ⟨d, G3, hd, x3, rd⟩ := Y.yld i H2 G2 v H3 hlt er2.bas x2.stl x2.sub y
        have edrop : xs.drop i = d :: xs.drop (i + 1) := by
          rw [List.drop_eq_getElem_cons hlt]
          have := (List.getElem?_eq_some_iff.mp hd).2
          rw [this]
        rw [edrop] at hl
        obtain ⟨o, r', fo, fr, hrest⟩ := lcL_cons hl
        rw [← hf] at fo
        have fo' := noX_ok' fo
        have er3 := (er2.ext x3).wipe own
        cases qs : setT tg d (unS own ρ) with
        | exc _ _ => rw [qs] at fo'; cases fo'
        | bad => rw [qs] at fo'; cases fo'
        | ok ρ1 =>
          rw [qs] at fo'
          simp only [ok_bind] at fo'
          have gD3 : G3 D = none := by
            cases q : G3 D with
            | none => rfl
            | some o =>
              rcases x3.new D (by rw [q]; simp) with z | z
              · exact absurd gD z
              · rw [hD] at z; cases z
          refine g_set er3 rd qs fun σ4 er4 k1 k2 => ⟨wipe_same (by rw [k2, wipe_length]) fun j hj => k1 j (tg_in hin hj), ?_⟩
          cases qt : ev P tt ρ1 with
          | exc _ _ => rw [qt] at fo'; cases fo'
          | bad => rw [qt] at fo'; cases fo'
          | ok t =>
            rw [qt] at fo'
            simp only [ok_bind] at fo'
            cases qb : truD t with
            | exc _ _ => rw [qb] at fo'; cases fo'
            | bad => rw [qb] at fo'; cases fo'
            | ok b =>
              rw [qb] at fo'
              simp only [ok_bind] at fo'
              have body : ∀ H5 G5, Ext H3 G3 H5 G5 → ER X.K B ρ1 σ4 H5 G5 → (if b = true then tK X P (fun _ _ _ _ => False) ke elt σ4 H5 (fun y H4 => ∃ acc, H4 D = some (.lst acc) ∧ acc.length < sizeLine ∧
                  (i + 1 ≤ xs.length ∧ ∃ G' vs acc' rest, Ext H1 G1 (upd H4 D (.lst (acc ++ [y]))) G' ∧ (upd H4 D (.lst (acc ++ [y]))) D = some (.lst vs) ∧ G' D = none ∧ Reps X.K G' vs acc' ∧ vs.length ≤ i + 1 ∧ lcL f (xs.drop (i + 1)) = .ok rest ∧ acc' ++ rest = ys))
                else (i + 1 ≤ xs.length ∧ ∃ G' vs acc' rest, Ext H1 G1 H5 G' ∧ H5 D = some (.lst vs) ∧ G' D = none ∧ Reps X.K G' vs acc' ∧ vs.length ≤ i + 1 ∧ lcL f (xs.drop (i + 1)) = .ok rest ∧ acc' ++ rest = ys)) := by
                intro H5 G5 x5 er5
                have xx := (x2.trans x3).trans x5
                have hD5 : H5 D = some (.lst vs) := x5.all _ _ (x3.all _ _ hD)
                have gD5 : G5 D = none := by
                  cases q : G5 D with
                  | none => rfl
                  | some o =>
                    rcases x5.new D (by rw [q]; simp) with z | z
                    · exact absurd gD3 z
                    · rw [x3.all _ _ hD] at z; cases z
                cases b with
                | false =>
                  rw [if_neg Bool.false_ne_true]
                  simp only at fo'
                  cases fo'
                  simp only at hrest
                  subst hrest
                  exact ⟨hlt, G5, vs, acc, _, xx, hD5, gD5, (rr.mono x3.stl).mono x5.stl, by omega, fr, hy⟩
                | true =>
                  rw [if_pos rfl]
                  simp only at fo'
                  refine tK_still hk ⟨B, G5, ρ1, er5, ?_⟩
                  cases qe : ev P elt ρ1 with
                  | exc _ _ => rw [qe] at fo'; cases fo'
                  | bad => rw [qe] at fo'; cases fo'
                  | ok e =>
                    rw [qe] at fo'
                    simp only [ok_bind] at fo'
                    cases fo'
                    simp only at hrest
                    subst hrest
                    intro w H6 G6 x6 r6
                    have r6 : Rep X.K G6 w e := r6
                    have hD6 : H6 D = some (.lst vs) := x6.all _ _ hD5
                    have gD6 : G6 D = none := by
                      cases q : G6 D with
                      | none => rfl
                      | some o =>
                        rcases x6.new D (by rw [q]; simp) with z | z
                        · exact absurd gD5 z
                        · rw [hD5] at z; cases z
                    refine ⟨vs, hD6, lt_line (by omega), hlt, G6, vs ++ [w], acc ++ [e], r', ?_, upd_same, gD6, (((rr.mono x3.stl).mono x5.stl).mono x6.stl).append (.cons r6 .nil), by rw [List.length_append]; simp; omega, fr, by rw [List.append_assoc]; exact hy⟩
                    have x7 := xx.trans x6
                    refine ⟨fun a o h => ?_, x7.stl, fun a o h => ?_, x7.new⟩
                    · rw [upd_ne (ne_of_none h nD)]; exact x7.all _ _ h
                    · rw [upd_ne (ne_of_none h gD6)]; exact x7.sub _ _ h
              match ifs, hif with
              | [], hif =>
                have e0 := hif rfl
                subst e0
                simp only [ev] at qt
                cases qt
                simp only [truD] at qb
                cases qb
                exact body H3 G3 (Ext.refl x3.sub) er4
              | c :: cs, hif =>
                refine ⟨B, G3, ρ1, er4, ?_⟩
                rw [qt]
                simp only [ok_bind]
                rw [qb]
                intro H5 G5 x5
                exact body H5 G5 x5 (er4.ext x5)
      · have e : i = xs.length := by omega
        subst e
        rw [List.drop_length] at hl
        simp only [lcL] at hl
        cases hl
        rw [List.append_nil] at hy
        subst hy
        refine .inl ⟨Y.stop H2 G2 er2.bas x2.stl x2.sub, ?_⟩
        exact fin D vs H2 G2 (x1.trans x2) (x1.all.free nD) gD hD rr
theorem s_lc {own : List Nat} {tg : Tg} {it : NW.It} {tt elt : E} {g iter : Expr} {ifs : List Expr} {scope : Scope} {ke : Nat} (gd : Gd X T P n W)
    (ok : blkC X.N X.env.scope scope (own.map fun i => (X.N.getD i "", i)) = true) (hin : tgIn own tg = true) (hp : plainE iter = true) (hk : ke ≠ 1) (hif : ifs = [] → tt = .bl true)
    (hi : PI X g iter (tI X P W it))
    (hg : ∀ (s : Shared) (H : Hp) (C : Addr) (cl : List (Str × Addr)) (fp : List Addr), PG (X.blk s H scope (compEnvC scope cl C X.env) fp) g (tG X.K tg))
    (ht : ∀ (s : Shared) (H : Hp) (C : Addr) (cl : List (Str × Addr)) (fp : List Addr), PTs (X.blk s H scope (compEnvC scope cl C X.env) fp) ifs (tIfs X P ifs tt))
    (he : ∀ (s : Shared) (H : Hp) (C : Addr) (cl : List (Str × Addr)) (fp : List Addr), PE (X.blk s H scope (compEnvC scope cl C X.env) fp) x (tK X P (fun _ _ _ _ => False) ke elt)) :
    PE X (.ListComp x [⟨g, iter, ifs, 0⟩] scope pos) (tK X P W 2 (.lc own tg it tt elt)) :=
  PE.imp (pe_lc (pos := pos) gd.calm gd.nd hi (blkOk_by ok) hg ht he (plain_fold hp)) (c_lc hin hk hif)
end
end NW
end

section
set_option maxHeartbeats 8000000
/-! an exception with a row, made and asked for its row -/
namespace NW
open PySem PySem.Spec PyProof.Rows L2
theorem passes0 {X : Cx} : Passes (L2.CX X.prog X.w) X (fun _ _ _ => False) := fun _ _ _ _ _ _ _ x => by
  obtain ⟨_, _, _, _, _, _, _, _, _, _, _, _, z⟩ := x
  exact z.elim
/-- what a made exception leaves -/
theorem made_row {K : PySem.W.Frag} {mg : Str → Option Value} {H G : Hp} {a C dx : Addr} {v : V} {d : Dat} {c : Str} (sm : Same G H) (na : H a = none) (nd : H dx = none) (hda : dx ≠ a) (hC : mg c = some (.ref C)) (r : Rep K G v d) :
    Ext H G (upd (L2.del (upd (upd (upd H a (exo a C none)) dx (exd dx [(("row" : Str), v)])) a (exo a C (some dx))) a) dx (.xd [(("row" : Str), v)])) G ∧
    XR K mg (upd (L2.del (upd (upd (upd H a (exo a C none)) dx (exd dx [(("row" : Str), v)])) a (exo a C (some dx))) a) dx (.xd [(("row" : Str), v)])) G (.ref C) (some dx) c (some d) := by
  have key : ∀ b o, H b = some o → upd (L2.del (upd (upd (upd H a (exo a C none)) dx (exd dx [(("row" : Str), v)])) a (exo a C (some dx))) a) dx (.xd [(("row" : Str), v)]) b = some o := fun b o e => by
    have hb : b ≠ dx := ne_of_none e nd
    have hb2 : b ≠ a := ne_of_none e na
    rw [upd_ne hb, L2.del_ne hb2, upd_ne hb2, upd_ne hb, upd_ne hb2]
    exact e
  exact ⟨⟨key, Same.refl G, fun b o e => key b o (sm _ _ e), fun b e => .inl e⟩, ⟨C, hC, rfl⟩, dx, v, rfl, upd_same, r⟩
theorem mk_row {K : PySem.W.Frag} {H : Hp} {C : Addr} {v : V} {Q : XK} (T : OexC K C) (hn : PySem.W.findIn K (.ref C) "row" = some none)
    (q : ∀ a dx, H a = none → H dx = none → dx ≠ a → Q (.ref C) (some dx) (upd (L2.del (upd (upd (upd H a (exo a C none)) dx (exd dx [(("row" : Str), v)])) a (exo a C (some dx))) a) dx (.xd [(("row" : Str), v)]))) :
    [v].length ≤ 1000 ∧ ∀ a, H a = none → spInit K (.ref a :: ([v] ++ [])) (upd H a (exo a C none)) (fun u H2 => u = .non ∧ ∃ (d : Addr) (fs : List (Str × V)), H2 a = some (exo a C (some d)) ∧ H2 d = some (exd d fs) ∧ H d = none ∧ Q (.ref C) (some d) (upd (L2.del H2 a) d (.xd fs))) (fun _ _ _ => False) := by
  refine ⟨by simp, fun a na => ⟨a, C, v, rfl, T, hn, upd_same, fun dx nd hda => ⟨rfl, dx, [(("row" : Str), v)], upd_same, ?_, ?_, ?_⟩⟩⟩
  · rw [upd_ne hda, upd_same]
  · rw [upd_ne hda] at nd; exact nd
  · rw [upd_ne hda] at nd; exact q a dx na nd hda
theorem inv_grow {X : Cx} {pins : List (Addr × Obj)} {σ : L2.St} {H : Hp} {sI s' : Shared} (J : Inv X pins σ H sI) (k : ∀ b o, sI.heap.get? b = some o → s'.heap.get? b = some o) (os : s'.os = sI.os) (ag : AllBare s'.gens) : Inv X pins σ H s' :=
  J.call' (ch := []) os { keep := fun b o q n _ _ => k b o q
                          slot := fun b o q n _ _ => ⟨o.slots, k b o q⟩
                          free := fun b o q n _ => n
                          there := fun b o q _ => ⟨o, k b o q⟩
                          tups := fun b xs q => q
                          frzs := fun b o v q => q
                          tbls := fun b ps q => ⟨#[], by rw [q]; simp⟩ } (fun b o q => (J.hok b o q).stay (fun c v _ z => k c v z) (fun c h => h) (fun c xs h => h)) ag (fun b z => absurd z (by simp))
/-- C(e).f -/
def tNw (t : L2.St → Hp → XK → Prop) (C : Addr) (f : Str) : TE := fun σ H Q => t σ H fun cls d H' => cls = .ref C ∧ ∃ (dd : Addr) (fs : List (Str × V)) (v : V), d = some dd ∧ H' dd = some (.xd fs) ∧ fs.lookup f = some v ∧ Q v H'
theorem pe_nw {X : Cx} {C : Addr} {e : Expr} {t : L2.St → Hp → XK → Prop} {pos : Pos} {n : Str} (T : XfC X.K C) (hno : PySem.W.findIn X.K (.ref C) n = some none) (he : PMk X e t) (hb : attributeBase e n X.env (eval e X.env) = eval e X.env := by rfl) :
    PE X (.Attribute e n pos) (tNw t C n) := by
  refine ⟨fun pins s σ H Q I h => ?_⟩
  refine attr_of hb (thn (he pins s σ H _ I h) fun u s1 hh => ?_)
  obtain ⟨a, oe, vs, sI, H', cls, d, ea, J, k, hne, ha, hz, hd, h1, na, os, ag, r, ec, dd, fs, v, ed, ex, l, q⟩ := hh
  subst ea
  subst ec
  subst ed
  have I1 : Inv X pins σ H' s1 := inv_grow J k os ag
  have hx : ObjOk X.prog X.w H' s1.heap dd (.xd fs) := I1.hok dd _ ex
  obtain ⟨mA, hns, hr⟩ := hx
  obtain ⟨od, ho, hl⟩ := lookIn_ns hns
  obtain ⟨u, hu, ru⟩ := RelO.some_of (v := v) (o := mA n) (by rw [← l]; exact hr n)
  have I2 : PySem.W.InstAt s1.heap a oe C (some od) := ⟨ha, hz.1, by unfold PySem.W.notCls; rw [hd] <;> rfl, by rw [hz.2]; exact ho⟩
  exact HandSPX.exc_get I1.kIn I2 T.ga T.gg T.exC (PySem.W.findObj_own T.hdC hno rfl (by rw [hl, hu])) (handed_of ru) ⟨v, H', I1.tok _, ru, q⟩
section
variable {T : Tx} {P : Pg} {n : Nat} {X : Cx} {W : WX} {y : Expr}
theorem s_nrw {c : Str} {e : E} {np cp rp : Pos} (g : Gd X T P n W) (hg : glB X.env.scope c = true) (ho : okN c = true) (hx : T.exr.contains c = true) (hn : 2 ≤ n) (hp : plainE y = true) (hk : kd T e ≠ 1) (he : PE X y (tK X P W (kd T e) e)) :
    PE X (.Attribute (.Call (.Name c np) [y] [] cp) "row" rp) (tK X P W 0 (.nrw c e)) := by
  obtain ⟨C, h1, fI, fd, r1, r2, r3, r4, r5, r6, r7, r8⟩ := g.exr c (List.contains_iff_mem.mp hx)
  have hg' : X.env.scope.names.lookup c = some .globalImplicit := of_decide_eq_true hg
  refine PE.imp (pe_nw r8 r2 (pmk_oex r1 r3 r4 r5 (g.room.mono hn) r7 .nil passes0 hg' h1 (pa_cons (stillE hk he) pa_nil (star_cons hp)) (okN_d ho) (star_cons hp) rfl) rfl) fun σ H Q ⟨B, G, ρ, er, q⟩ => ?_
  simp only [ev] at q
  refine ⟨B, G, ρ, er, ?_⟩
  cases e1 : ev P e ρ with
  | ok d =>
    rw [e1] at q
    intro v H1 G1 x1 rv
    refine mk_row (H := H1) (v := v) (Q := fun cls d H' => cls = .ref C ∧ ∃ (dd : Addr) (fs : List (Str × V)) (v : V), d = some dd ∧ H' dd = some (.xd fs) ∧ fs.lookup ("row" : Str) = some v ∧ Q v H') r1 r2 fun a dx na nd hda => ?_
    obtain ⟨m1, m2⟩ := made_row (mg := X.mg) (c := c) (er.ext x1).sub na nd hda h1 rv
    exact ⟨rfl, dx, [(("row" : Str), v)], v, rfl, upd_same, by simp [List.lookup], q v _ G1 (x1.trans m1) rv⟩
  | exc z w => rw [e1] at q; exact q
  | bad => rw [e1] at q; exact q
end
end NW
end

section
set_option maxHeartbeats 8000000
namespace NW
open PySem PySem.Spec PyProof.Rows L2

section
variable {T : Tx} {P : Pg} {n : Nat}
theorem Snd.plain {X : Cx} {W : WX} {e : E} {x : Expr} (ht : tstE x = true) (h : PE X x (tK X P W (kd T e) e)) : Snd X T P W e x :=
  ⟨h, fun _ => s_tst ht h, fun op vs pos z => by subst z; simp [tstE] at ht⟩
mutual
theorem snd_E : ∀ (e : E) (X : Cx) (W : WX) (x : Expr), Gd X T P n W → okE T n X.N X.env.scope e x = true → Snd X T P W e x
  | .var i, X, W, x, g, h => by
    cases x with
    | Name nm pos => exact .plain rfl (s_var h)
    | _ => simp [okE] at h
  | .tv i, X, W, x, g, h => by
    cases x with
    | Name nm pos => exact .plain rfl (s_tv h)
    | _ => simp [okE] at h
  | .non, X, W, x, g, h => by
    cases x with
    | Constant c k pos =>
      cases c with
      | none => exact .plain rfl (s_lit (d := .none) pe_non (fun _ => by simp only [ev]) fun _ => .non)
      | _ => simp [okE] at h
    | _ => simp [okE] at h
  | .bl b, X, W, x, g, h => by
    cases x with
    | Constant c k pos =>
      cases c with
      | bool c =>
        simp only [okE, beq_iff_eq] at h
        subst h
        exact .plain rfl (s_lit (d := .bool b) pe_bl (fun _ => by simp only [ev]) fun _ => .bl b)
      | _ => simp [okE] at h
    | _ => simp [okE] at h
  | .int i, X, W, x, g, h => by
    cases x with
    | Constant c k pos =>
      cases c with
      | int c =>
        simp only [okE, beq_iff_eq] at h
        subst h
        exact .plain rfl (s_lit (d := .int i) pe_int (fun _ => by simp only [ev]) fun _ => .int i)
      | _ => simp [okE] at h
    | _ => simp [okE] at h
  | .str i, X, W, x, g, h => by
    cases x with
    | Constant c k pos =>
      cases c with
      | str c =>
        simp only [okE, decide_eq_true_eq] at h
        subst h
        exact .plain rfl (s_lit (d := .str i) pe_str (fun _ => by simp only [ev]) fun _ => .str i)
      | _ => simp [okE] at h
    | _ => simp [okE] at h
  | .con k, X, W, x, g, h => by
    cases x with
    | Name nm pos =>
      simp only [okE, Bool.and_eq_true, decide_eq_true_eq] at h
      obtain ⟨u, v, h1, h2, h3⟩ := g.cons k nm h.1.1
      have g1 : X.env.scope.names.lookup nm = some .globalImplicit := of_decide_eq_true h.1.2
      exact .plain rfl (s_lit (d := P.C k) (pe_glob g1 h1 h2 (okN_d h.2)) (fun _ => by simp only [ev]) h3)
    | _ => simp [okE] at h
  | .bin o a b, X, W, x, g, h => by
    cases x with
    | BinOp p op q pos =>
      simp only [okE, Bool.and_eq_true, decide_eq_true_eq] at h
      obtain ⟨⟨rfl, ha⟩, hb⟩ := h
      exact .plain rfl (s_bin (snd_E a X W _ g ha).pe (snd_E b X W _ g hb).pe)
    | _ => simp [okE] at h
  | .neg a, X, W, x, g, h => by
    cases x with
    | UnaryOp op p pos =>
      cases op with
      | USub =>
        simp only [okE] at h
        have z := s_neg (pos := pos) (snd_E a X W _ g h).pe
        exact ⟨z, fun _ => PT.imp (pt_truth (weakE z) (fun _ => rfl)) fun σ H Q ⟨B, G, ρ, er, q⟩ => by
          refine bndT er q fun d v H1 G1 x1 r1 er1 q1 => ?_
          cases h1 : truD d with
          | ok r => rw [h1] at q1; exact ⟨r, tru_of er1.sub r1 h1, q1 H1 G1 (Ext.refl er1.sub)⟩
          | exc c z => exact absurd h1 (tru_ne d c z)
          | bad => rw [h1] at q1; exact q1.elim, fun _ _ _ e => by cases e⟩
      | _ => simp [okE] at h
    | _ => simp [okE] at h
  | .cmp o a b, X, W, x, g, h => by
    cases x with
    | Compare p ops qs pos =>
      match ops, qs, h with
      | [op], [q], h =>
        simp only [okE, Bool.and_eq_true, decide_eq_true_eq] at h
        obtain ⟨⟨⟨rfl, hp⟩, ha⟩, hb⟩ := h
        exact ⟨s_cmp g.room hp (snd_E a X W _ g ha).pe (snd_E b X W _ g hb).pe, fun _ => s_cmpT g.room hp (snd_E a X W _ g ha).pe (snd_E b X W _ g hb).pe, fun _ _ _ e => by cases e⟩
      | [], _, h => simp [okE] at h
      | _ :: _ :: _, _, h => simp [okE] at h
      | [_], [], h => simp [okE] at h
      | [_], _ :: _ :: _, h => simp [okE] at h
    | _ => simp [okE] at h
  | .chn o p' a b c, X, W, x, g, h => by
    cases x with
    | Compare p ops qs pos =>
      match ops, qs, h with
      | [op, op'], [q, r], h =>
        simp only [okE, Bool.and_eq_true, decide_eq_true_eq] at h
        obtain ⟨⟨⟨⟨⟨rfl, rfl⟩, hp⟩, ha⟩, hb⟩, hc⟩ := h
        exact ⟨s_chn g.room hp (snd_E a X W _ g ha).pe (snd_E b X W _ g hb).pe (snd_E c X W _ g hc).pe, fun _ => s_chnT g.room hp (snd_E a X W _ g ha).pe (snd_E b X W _ g hb).pe (snd_E c X W _ g hc).pe, fun _ _ _ e => by cases e⟩
      | [], _, h => simp [okE] at h
      | [_], _, h => simp [okE] at h
      | _ :: _ :: _ :: _, _, h => simp [okE] at h
      | [_, _], [], h => simp [okE] at h
      | [_, _], [_], h => simp [okE] at h
      | [_, _], _ :: _ :: _ :: _, h => simp [okE] at h
    | _ => simp [okE] at h
  | .and a b, X, W, x, g, h => by
    cases x with
    | BoolOp op vs pos =>
      match op, vs, h with
      | .And, p :: q :: r, h =>
        simp only [okE, Bool.and_eq_true, Bool.not_eq_true', bne_iff_ne] at h
        obtain ⟨⟨⟨⟨⟨i1, i2⟩, k1⟩, k2⟩, ha⟩, hb⟩ := h
        have A := snd_E a X W p g ha
        have PW' : PE X (.BoolOp .And (q :: r) pos) (tK X P W (kd T b) b) ∧ PW X (.BoolOp .And (q :: r) pos) (tT X P W b) := by
          match r, hb with
          | [], hb =>
            have Bb := snd_E b X W q g hb
            exact ⟨pe_one Bb.pe, pw_and1 (Bb.pt i2)⟩
          | s :: r, hb =>
            have Bb := snd_E b X W _ g hb
            exact ⟨Bb.pe, Bb.pw _ _ _ rfl⟩
        have w := w_and (A.pt i1) PW'.2
        exact ⟨s_and k1 k2 A.pe PW'.1, fun _ => w.pt, fun _ _ _ e => by cases e; exact w⟩
      | .Or, _, h => simp [okE] at h
      | .And, [], h => simp [okE] at h
      | .And, [_], h => simp [okE] at h
    | _ => simp [okE] at h
  | .or a b, X, W, x, g, h => by
    cases x with
    | BoolOp op vs pos =>
      match op, vs, h with
      | .Or, p :: q :: r, h =>
        simp only [okE, Bool.and_eq_true, Bool.not_eq_true', bne_iff_ne] at h
        obtain ⟨⟨⟨⟨⟨i1, i2⟩, k1⟩, k2⟩, ha⟩, hb⟩ := h
        have A := snd_E a X W p g ha
        have PW' : PE X (.BoolOp .Or (q :: r) pos) (tK X P W (kd T b) b) ∧ PW X (.BoolOp .Or (q :: r) pos) (tT X P W b) := by
          match r, hb with
          | [], hb =>
            have Bb := snd_E b X W q g hb
            exact ⟨pe_one Bb.pe, pw_or1 (Bb.pt i2)⟩
          | s :: r, hb =>
            have Bb := snd_E b X W _ g hb
            exact ⟨Bb.pe, Bb.pw _ _ _ rfl⟩
        have w := w_or (A.pt i1) PW'.2
        exact ⟨s_or k1 k2 A.pe PW'.1, fun _ => w.pt, fun _ _ _ e => by cases e; exact w⟩
      | .And, _, h => simp [okE] at h
      | .Or, [], h => simp [okE] at h
      | .Or, [_], h => simp [okE] at h
    | _ => simp [okE] at h
  | .not a, X, W, x, g, h => by
    cases x with
    | UnaryOp op p pos =>
      cases op with
      | Not =>
        simp only [okE, Bool.and_eq_true, Bool.not_eq_true'] at h
        have A := snd_E a X W p g h.2
        exact ⟨s_not A.pe, fun _ => s_notT (A.pt h.1), fun _ _ _ e => by cases e⟩
      | _ => simp [okE] at h
    | _ => simp [okE] at h
  | .ife c a b, X, W, x, g, h => by
    cases x with
    | IfExp t p q pos =>
      simp only [okE, Bool.and_eq_true, Bool.not_eq_true', bne_iff_ne] at h
      obtain ⟨⟨⟨⟨⟨i1, hc⟩, ha⟩, hb⟩, k1⟩, k2⟩ := h
      exact ⟨s_ife k1 k2 ((snd_E c X W _ g hc).pt i1) (snd_E a X W _ g ha).pe (snd_E b X W _ g hb).pe, fun z => by simp [isIfe] at z, fun _ _ _ e => by cases e⟩
    | _ => simp [okE] at h
  | .ix a i, X, W, x, g, h => by
    cases x with
    | Subscript p q pos =>
      simp only [okE, Bool.and_eq_true] at h
      exact .plain rfl (s_ix h.1.1 (snd_E a X W _ g h.1.2).pe (snd_E i X W _ g h.2).pe)
    | _ => simp [okE] at h
  | .sl a lo hi, X, W, x, g, h => by
    cases x with
    | Subscript p q pos =>
      cases q with
      | Slice l u st p2 =>
        cases st with
        | none =>
          simp only [okE, Bool.and_eq_true] at h
          obtain ⟨⟨ha, hl⟩, hh⟩ := h
          have A := (snd_E a X W _ g ha).pe
          exact .plain rfl (s_sl A (s_po hl fun l z => (snd_E lo X W l g z).pe) (s_po hh fun l z => (snd_E hi X W l g z).pe))
        | some _ => simp [okE] at h
      | _ => simp [okE] at h
    | _ => simp [okE] at h
  | .no, X, W, x, g, h => by cases x <;> simp [okE] at h
  | .iss _ _ _ _ _, X, W, x, g, h => by cases x <;> simp [okE] at h
  | .xrw _ _ _ _, X, W, x, g, h => by cases x <;> simp [okE] at h
  | .nrw c e, X, W, x, g, h => by
    cases x with
    | Attribute b a pos =>
      cases b with
      | Call f xs kws cpos =>
        cases f with
        | Name nm np =>
          match xs, kws, h with
          | [y], [], h =>
            simp only [okE, Bool.and_eq_true, decide_eq_true_eq, bne_iff_ne] at h
            obtain ⟨⟨⟨⟨⟨⟨⟨⟨rfl, rfl⟩, h3⟩, h4⟩, h5⟩, h6⟩, h7⟩, h8⟩, h9⟩ := h
            exact .plain rfl (s_nrw g h3 h4 h5 h6 h7 h8 (snd_E e X W y g h9).pe)
          | [], _, h => simp [okE] at h
          | _ :: _ :: _, _, h => simp [okE] at h
          | [_], _ :: _, h => simp [okE] at h
        | _ => simp [okE] at h
      | _ => simp [okE] at h
    | _ => simp [okE] at h
  | .tup es, X, W, x, g, h => by
    cases x with
    | Tuple xs k pos =>
      simp only [okE] at h
      exact .plain rfl (s_tup (snd_A es X W _ _ g h))
    | _ => simp [okE] at h
  | .lst es, X, W, x, g, h => by
    cases x with
    | List xs pos =>
      simp only [okE] at h
      exact .plain rfl (s_lst (snd_A es X W _ _ g h))
    | _ => simp [okE] at h
  | .cal k es, X, W, x, g, h => by
    cases x with
    | Call f xs kws pos =>
      cases f with
      | Name nm np =>
        match xs, kws, h with
        | y :: ys, [], h =>
          simp only [okE] at h
          cases hs : T.fns[k]? with
          | none => rw [hs] at h; cases h
          | some sg =>
            rw [hs] at h
            simp only [Bool.and_eq_true, decide_eq_true_eq] at h
            obtain ⟨⟨⟨⟨⟨⟨⟨h1, h2⟩, h3⟩, h4⟩, h5⟩, h51⟩, hcl⟩, h6⟩ := h
            have z := s_cal (pos := pos) (np := np) g hs h1 h2 h3 h4 h51 hcl h5 (okEs_len h6) (okEs_plain h6) (snd_A es X W _ _ g h6)
            have e : kd T (.cal k es) = sg.fr := by simp only [kd, hs]
            exact .plain rfl (by rw [e]; exact z)
        | [], _, h => simp [okE] at h
        | _ :: _, _ :: _, h => simp [okE] at h
      | _ => simp [okE] at h
    | _ => simp [okE] at h
  | .calk k es w e, X, W, x, g, h => by
    cases x with
    | Call f xs kws pos =>
      cases f with
      | Name nm np =>
        match xs, kws, h with
        | y :: ys, [⟨a, z, kp⟩], h =>
          simp only [okE] at h
          cases hs : T.fns[k]? with
          | none => rw [hs] at h; cases h
          | some sg =>
            rw [hs] at h
            simp only [Bool.and_eq_true, decide_eq_true_eq, beq_iff_eq, bne_iff_ne] at h
            obtain ⟨⟨⟨⟨⟨⟨⟨⟨⟨⟨⟨⟨h1, h2⟩, h3⟩, h4⟩, h5⟩, h6⟩, rfl⟩, h8⟩, hcl⟩, h9⟩, h10⟩, h11⟩, h12⟩ := h
            exact .plain rfl (s_calk (pos := pos) (np := np) g hs h1 h2 h3 h4 h6 hcl h5 h8 (okEs_len h9) (okEs_plain h9) (snd_A es X W _ _ g h9) (stillE h12 (snd_E e X W z g h11).pe))
        | [], _, h => simp [okE] at h
        | _ :: _, [], h => simp [okE] at h
        | _ :: _, _ :: _ :: _, h => simp [okE] at h
      | _ => simp [okE] at h
    | _ => simp [okE] at h
  | .bi f es, X, W, x, g, h => by
    cases x with
    | Call fn xs kws pos =>
      cases fn with
      | Name nm np =>
        match xs, kws, h with
        | y :: ys, [], h =>
          simp only [okE, Bool.and_eq_true, decide_eq_true_eq] at h
          obtain ⟨⟨⟨rfl, h2⟩, h3⟩, h4⟩ := h
          exact .plain rfl (s_bi g h2 h3 (okEs_plain h4) (snd_A es X W _ _ g h4))
        | [], _, h => simp [okE] at h
        | _ :: _, _ :: _, h => simp [okE] at h
      | _ => simp [okE] at h
    | _ => simp [okE] at h
  | .isi t a, X, W, x, g, h => by
    cases x with
    | Call fn xs kws pos =>
      cases fn with
      | Name nm np =>
        match xs, kws, h with
        | [], _, h => simp [okE] at h
        | [_], _, h => simp [okE] at h
        | _ :: _ :: _ :: _, _, h => simp [okE] at h
        | [_, _], _ :: _, h => simp [okE] at h
        | [y, w], [], h =>
          cases w with
          | Name z zp =>
            simp only [okE, Bool.and_eq_true, decide_eq_true_eq] at h
            obtain ⟨⟨⟨⟨⟨⟨h1, h2⟩, h3⟩, h4⟩, h5⟩, h6⟩, h7⟩ := h
            exact .plain rfl (s_isi g h1 h2 h3 h4 h5 h6 (snd_E a X W _ g h7).pe)
          | _ => simp [okE] at h
      | _ => simp [okE] at h
    | _ => simp [okE] at h
  | .m0 m a, X, W, x, g, h => by
    cases x with
    | Call fn xs kws pos =>
      cases fn with
      | Attribute o f apos =>
        match xs, kws, h with
        | [], [], h =>
          simp only [okE, Bool.and_eq_true, decide_eq_true_eq] at h
          obtain ⟨⟨⟨rfl, h2⟩, h3⟩, h4⟩ := h
          exact .plain rfl (s_m0 h2 h3 (snd_E a X W _ g h4).pe)
        | [], _ :: _, h => simp [okE] at h
        | _ :: _, _, h => simp [okE] at h
      | _ => simp [okE] at h
    | _ => simp [okE] at h
  | .m1 m a b, X, W, x, g, h => by
    cases x with
    | Call fn xs kws pos =>
      cases fn with
      | Attribute o f apos =>
        match xs, kws, h with
        | [y], [], h =>
          simp only [okE, Bool.and_eq_true, decide_eq_true_eq] at h
          obtain ⟨⟨⟨⟨⟨rfl, h2⟩, h3⟩, h4⟩, h5⟩, h6⟩ := h
          exact .plain rfl (s_m1 h2 h3 h4 (snd_E a X W _ g h5).pe (snd_E b X W _ g h6).pe)
        | [], _, h => simp [okE] at h
        | [_], _ :: _, h => simp [okE] at h
        | _ :: _ :: _, _, h => simp [okE] at h
      | _ => simp [okE] at h
    | _ => simp [okE] at h
  | .dc0, X, W, x, g, h => by
    cases x with
    | Dict ks vs pos =>
      match ks, vs, h with
      | [], [], h => exact .plain rfl s_dc0
      | [], _ :: _, h => simp [okE] at h
      | _ :: _, _, h => simp [okE] at h
    | _ => simp [okE] at h
  | .dc1 a b, X, W, x, g, h => by
    cases x with
    | Dict ks vs pos =>
      match ks, vs, h with
      | [some y], [z], h =>
        simp only [okE, Bool.and_eq_true, bne_iff_ne] at h
        exact .plain rfl (s_dc1 h.2 (snd_E a X W _ g h.1.1).pe (snd_E b X W _ g h.1.2).pe)
      | [], _, h => simp [okE] at h
      | [none], _, h => simp [okE] at h
      | [some _], [], h => simp [okE] at h
      | [some _], _ :: _ :: _, h => simp [okE] at h
      | _ :: _ :: _, _, h => simp [okE] at h
    | _ => simp [okE] at h
  | .dget a b c, X, W, x, g, h => by
    cases x with
    | Call f as kws pos =>
      cases f with
      | Attribute y m apos =>
        match as, kws, h with
        | [u, v], [], h =>
          simp only [okE, Bool.and_eq_true, bne_iff_ne, decide_eq_true_eq] at h
          obtain ⟨⟨⟨⟨⟨⟨⟨⟨⟨rfl, h1⟩, h2⟩, h3⟩, h4⟩, h5⟩, h6⟩, h7⟩, h8⟩, h9⟩ := h
          exact .plain rfl (s_dget (hu_of g.room) h9 h8 h1 h2 h3 h4 (snd_E a X W _ g h5).pe (snd_E b X W _ g h6).pe (snd_E c X W _ g h7).pe)
        | [], _, h => simp [okE] at h
        | [_], _, h => simp [okE] at h
        | _ :: _ :: _ :: _, _, h => simp [okE] at h
        | [_, _], _ :: _, h => simp [okE] at h
      | _ => simp [okE] at h
    | _ => simp [okE] at h
  | .lc own tg it tt elt, X, W, x, g, h => by
    cases x with
    | ListComp y cs scope pos =>
      match cs, h with
      | [⟨tg', iter, ifs, asy⟩], h =>
        simp only [okE, Bool.and_eq_true, bne_iff_ne, decide_eq_true_eq] at h
        obtain ⟨⟨⟨⟨⟨⟨⟨⟨rfl, h1⟩, h2⟩, h3⟩, h4⟩, h5⟩, h6⟩, h7⟩, h8⟩ := h
        have hif : ifs = [] → tt = .bl true := fun e => by
          subst e
          have h7' : tyes tt = true := h7
          cases tt <;> simp [tyes] at h7'
          subst h7'
          rfl
        refine .plain rfl (s_lc g h1 h2 h3 h6 hif (snd_I it X W _ _ g h4) (fun s H C cl fp => s_g (X := X.blk s H scope (compEnvC scope cl C X.env) fp) g.calm g.nd h5) (fun s H C cl fp => ?_)
          (fun s H C cl fp => (snd_E elt (X.blk s H scope (compEnvC scope cl C X.env) fp) _ _ (g.blk s H scope _ fp) h8).pe))
        match ifs, h7 with
        | [], _ => exact pts_nil
        | [c], h7 =>
          simp only [Bool.and_eq_true, Bool.not_eq_true'] at h7
          exact pts_one ((snd_E tt (X.blk s H scope (compEnvC scope cl C X.env) fp) _ _ (g.blk s H scope _ fp) h7.2).pt h7.1)
        | _ :: _ :: _, h7 => cases h7
      | [], h => simp [okE] at h
      | _ :: _ :: _, h => simp [okE] at h
    | _ => simp [okE] at h
theorem snd_A : ∀ (es : Es) (X : Cx) (W : WX) (ws : List Bool) (xs : List Expr), Gd X T P n W → okEs T n X.N X.env.scope ws es xs = true → PA X xs (tA X P W ws es)
  | .nil, X, W, ws, xs, g, h => by
    cases xs with
    | nil =>
      exact PA.imp pa_nil fun σ H Q ⟨B, G, ρ, er, q⟩ => by
        simp only [evs] at q
        exact q [] H G (Ext.refl er.sub) .nil
    | cons _ _ => simp [okEs] at h
  | .cons e r, X, W, ws, xs, g, h => by
    cases xs with
    | nil => simp [okEs] at h
    | cons x xs =>
      simp only [okEs, Bool.and_eq_true, Bool.or_eq_true, bne_iff_ne] at h
      obtain ⟨⟨⟨h1, h2⟩, h3⟩, h4⟩ := h
      have A := (snd_E e X W _ g h2).pe
      have R := snd_A r X W _ _ g h4
      by_cases hw : ws.headD false = true
      · refine PA.imp (pa_cons (weakE A) R (star_cons h1)) fun σ H Q ⟨B, G, ρ, er, q⟩ => ?_
        simp only [evs] at q
        refine bndA er q fun d v H1 G1 x1 r1 er1 q1 => ?_
        refine ⟨B, G1, ρ, er1, ?_⟩
        cases e1 : evs P r ρ with
        | ok ds =>
          rw [e1] at q1
          intro vs H2 G2 x2 r2
          exact q1 (v :: vs) H2 G2 x2 (.cons (by rw [if_pos hw]; exact RW.ext x2 r1) r2)
        | exc c z => rw [e1] at q1; exact q1
        | bad => rw [e1] at q1; exact q1
      · have hk : kd T e ≠ 1 := h3.resolve_right hw
        refine PA.imp (pa_cons (stillE hk A) R (star_cons h1)) fun σ H Q ⟨B, G, ρ, er, q⟩ => ?_
        simp only [evs] at q
        refine bndA er q fun d v H1 G1 x1 r1 er1 q1 => ?_
        refine ⟨B, G1, ρ, er1, ?_⟩
        cases e1 : evs P r ρ with
        | ok ds =>
          rw [e1] at q1
          intro vs H2 G2 x2 r2
          exact q1 (v :: vs) H2 G2 x2 (.cons (by rw [if_neg hw]; exact Rep.mono x2.stl r1) r2)
        | exc c z => rw [e1] at q1; exact q1
        | bad => rw [e1] at q1; exact q1
theorem snd_I : ∀ (it : NW.It) (X : Cx) (W : WX) (tg x : Expr), Gd X T P n W → okI T n X.N X.env.scope it x = true → PI X tg x (tI X P W it)
  | .seq e, X, W, tg, x, g, h => by
    simp only [okI, Bool.and_eq_true, bne_iff_ne] at h
    exact s_seq h.2 (snd_E e X W _ g h.1).pe
  | .lent i, X, W, tg, x, g, h => by
    cases x with
    | Name nm pos => exact s_lent h
    | _ => simp [okI] at h
  | .own i, X, W, tg, x, g, h => by
    cases x with
    | Name nm pos => exact s_own h
    | _ => simp [okI] at h
  | .rng1 a, X, W, tg, x, g, h => by
    cases x with
    | Call fn xs kws pos =>
      cases fn with
      | Name nm np =>
        match xs, kws, h with
        | [y], [], h =>
          simp only [okI, Bool.and_eq_true, decide_eq_true_eq] at h
          obtain ⟨⟨⟨h1, h2⟩, h3⟩, h4⟩ := h
          exact s_rng1 g h1 h2 h3 (snd_E a X W _ g h4).pe
        | [], _, h => simp [okI] at h
        | [_], _ :: _, h => simp [okI] at h
        | _ :: _ :: _, _, h => simp [okI] at h
      | _ => simp [okI] at h
    | _ => simp [okI] at h
  | .rng2 a b, X, W, tg, x, g, h => by
    cases x with
    | Call fn xs kws pos =>
      cases fn with
      | Name nm np =>
        match xs, kws, h with
        | [y, z], [], h =>
          simp only [okI, Bool.and_eq_true, decide_eq_true_eq] at h
          obtain ⟨⟨⟨⟨⟨h1, h2⟩, h3⟩, h4⟩, h5⟩, h6⟩ := h
          exact s_rng2 g h1 h2 h3 h4 (snd_E a X W _ g h5).pe (snd_E b X W _ g h6).pe
        | [], _, h => simp [okI] at h
        | [_], _, h => simp [okI] at h
        | [_, _], _ :: _, h => simp [okI] at h
        | _ :: _ :: _ :: _, _, h => simp [okI] at h
      | _ => simp [okI] at h
    | _ => simp [okI] at h
end
end
end NW
end

section
set_option maxHeartbeats 8000000
/-! Statements: the look, the readings, that they hold. -/
namespace NW
open PySem PySem.Spec PyProof.Rows L2

def isLc : Expr → Bool
  | .ListComp _ _ _ _ => true
  | .SetComp _ _ _ _ => true
  | .DictComp _ _ _ _ _ => true
  | _ => false
def isTup : Expr → Bool
  | .Tuple _ _ _ => true
  | _ => false
/-- a store of a comprehension into a name -/
def lcSwap (sc : Scope) (x : Str) (py : Pos) : Expr → Bool
  | .ListComp _ _ scope pos => (locB sc x && (py.line == pos.line) && !(scope.names.any fun (n, k) => n == x && (k == .local || k == .cell))) || decide (sc.names.lookup x = some .cell)
  | .SetComp _ _ _ _ => false
  | .DictComp _ _ _ _ _ => false
  | _ => true
def stoB (sc : Scope) (x : Str) : Bool := match sc.names.lookup x with
  | some .local => true
  | some .cell => true
  | _ => false
def isNon : E → Bool
  | .non => true
  | _ => false
/-- a target of a loop or a store: a cell, too -/
def okGS (N : List Str) (sc : Scope) : Tg → Expr → Bool
  | .nm i, .Name x _ => decide (N[i]? = some x) && stoB sc x
  | .tp is, .Tuple es _ _ => decide (is.length = es.length) && (is.zip es).all fun p => match p.2 with
    | .Name x _ => decide (N[p.1]? = some x) && stoB sc x
    | _ => false
  | _, _ => false
/-- a name -/
def nmE (x : Str) : Expr → Bool
  | .Name y _ => decide (y = x)
  | _ => false
theorem nmE_ok {x : Str} {e : Expr} (h : nmE x e = true) : ∃ p, e = .Name x p := by
  cases e <;> simp only [nmE] at h <;> try (cases h; done)
  have h := of_decide_eq_true h
  subst h
  exact ⟨_, rfl⟩
def strC : Expr → Bool
  | .Constant c _ _ => (match c with
    | .str _ => true
    | _ => false)
  | _ => false
theorem strC_ok {e : Expr} (h : strC e = true) : ∃ m k p, e = .Constant (.str m) k p := by
  cases e <;> simp only [strC] at h <;> try (cases h; done)
  rename_i c k p
  cases c <;> simp only at h <;> try (cases h; done)
  exact ⟨_, _, _, rfl⟩
/-- c('m') -/
def mk1 (c : Str) : Expr → Bool
  | .Call f as kws _ => nmE c f && (match as with
    | [a] => strC a
    | _ => false) && kws.isEmpty
  | _ => false
theorem mk1_ok {c : Str} {e : Expr} (h : mk1 c e = true) : ∃ np m k p2 cp, e = .Call (.Name c np) [.Constant (.str m) k p2] [] cp := by
  cases e <;> simp only [mk1] at h <;> try (cases h; done)
  rename_i f as kws cp
  rw [Bool.and_eq_true, Bool.and_eq_true] at h
  obtain ⟨⟨h1, h2⟩, h3⟩ := h
  obtain ⟨np, rfl⟩ := nmE_ok h1
  cases as with
  | nil => cases h2
  | cons a r =>
    cases r with
    | cons _ _ => cases h2
    | nil =>
      obtain ⟨m, k, p2, rfl⟩ := strC_ok h2
      cases kws with
      | cons _ _ => cases h3
      | nil => exact ⟨_, _, _, _, _, rfl⟩
def rais1 (c : Str) : Stmt → Bool
  | .Raise e u _ => (match e with
    | some e => mk1 c e
    | none => false) && u.isNone
  | _ => false
theorem rais1_ok {c : Str} {st : Stmt} (h : rais1 c st = true) : ∃ np m k p2 cp pos, st = .Raise (some (.Call (.Name c np) [.Constant (.str m) k p2] [] cp)) none pos := by
  cases st <;> simp only [rais1] at h <;> try (cases h; done)
  rename_i e u pos
  rw [Bool.and_eq_true] at h
  cases e with
  | none => cases h.1
  | some e =>
    obtain ⟨np, m, k, p2, cp, rfl⟩ := mk1_ok h.1
    cases u with
    | some _ => cases h.2
    | none => exact ⟨_, _, _, _, _, _, rfl⟩
/-- x = e -/
def asg1 : Stmt → Option (Str × Expr)
  | .Assign ts y _ => (match ts with
    | [t] => (match t with
      | .Name z _ => some (z, y)
      | _ => none)
    | _ => none)
  | _ => none
theorem asg1_ok {st : Stmt} {z : Str} {y : Expr} (h : asg1 st = some (z, y)) : ∃ zp pos, st = .Assign [.Name z zp] y pos := by
  cases st <;> simp only [asg1] at h <;> try (cases h; done)
  rename_i ts w pos
  cases ts with
  | nil => cases h
  | cons t r =>
    cases r with
    | cons _ _ => cases h
    | nil =>
      cases t <;> simp only at h <;> try (cases h; done)
      cases h
      exact ⟨_, _, rfl⟩
def asgL : List Stmt → Option (Str × Expr)
  | [s] => asg1 s
  | _ => none
theorem asgL_ok {b : List Stmt} {z : Str} {y : Expr} (h : asgL b = some (z, y)) : ∃ zp pos, b = [.Assign [.Name z zp] y pos] := by
  cases b with
  | nil => cases h
  | cons s r =>
    cases r with
    | cons _ _ => cases h
    | nil =>
      obtain ⟨zp, pos, rfl⟩ := asg1_ok (st := s) h
      exact ⟨_, _, rfl⟩
def exp1 : Stmt → Option Expr
  | .Expr y _ => some y
  | _ => none
def expr1 : List Stmt → Option Expr
  | [s] => exp1 s
  | _ => none
theorem expr1_ok {b : List Stmt} {y : Expr} (h : expr1 b = some y) : ∃ p, b = [.Expr y p] := by
  cases b with
  | nil => cases h
  | cons s r =>
    cases r with
    | cons _ _ => cases h
    | nil =>
      have h' : exp1 s = some y := h
      cases s <;> simp only [exp1] at h' <;> try (cases h'; done)
      cases h'
      exact ⟨_, rfl⟩
/-- isinstance(x, C) -/
def isC1 (x : Str) : Expr → Option Str
  | .Call f as kws _ => (match as with
    | [a, b] => if nmE "isinstance" f && nmE x a && kws.isEmpty then (match b with
      | .Name C _ => some C
      | _ => none) else none
    | _ => none)
  | _ => none
theorem isC1_ok {x C : Str} {e : Expr} (h : isC1 x e = some C) : ∃ np xp cp pos, e = .Call (.Name "isinstance" np) [.Name x xp, .Name C cp] [] pos := by
  cases e <;> simp only [isC1] at h <;> try (cases h; done)
  rename_i f as kws pos
  cases as with
  | nil => cases h
  | cons a r =>
    cases r with
    | nil => cases h
    | cons b r =>
      cases r with
      | cons _ _ => cases h
      | nil =>
        simp only at h
        split at h
        · rename_i q
          rw [Bool.and_eq_true, Bool.and_eq_true] at q
          obtain ⟨np, rfl⟩ := nmE_ok q.1.1
          obtain ⟨xp, rfl⟩ := nmE_ok q.1.2
          cases kws with
          | cons _ _ => cases q.2
          | nil =>
            cases b <;> simp only at h <;> try (cases h; done)
            cases h
            exact ⟨_, _, _, _, rfl⟩
        · cases h
def isCs (x : Str) : List Expr → Option (List Str)
  | [] => some []
  | e :: r => match isC1 x e, isCs x r with
    | some C, some Cs => some (C :: Cs)
    | _, _ => none
def tupE : Expr → Option (List Expr)
  | .Tuple xs _ _ => some xs
  | _ => none
theorem tupE_ok {e : Expr} {xs : List Expr} (h : tupE e = some xs) : ∃ k p, e = .Tuple xs k p := by
  cases e <;> simp only [tupE] at h <;> try (cases h; done)
  cases h
  exact ⟨_, _, rfl⟩
/-- z + (..) -/
def addT (z : Str) : Expr → Option (List Expr)
  | .BinOp a o b _ => if nmE z a && decide (o = .Add) then tupE b else none
  | _ => none
theorem addT_ok {z : Str} {e : Expr} {xs : List Expr} (h : addT z e = some xs) : ∃ zp k p pos, e = .BinOp (.Name z zp) .Add (.Tuple xs k p) pos := by
  cases e <;> simp only [addT] at h <;> try (cases h; done)
  split at h
  · rename_i q
    rw [Bool.and_eq_true, decide_eq_true_eq] at q
    obtain ⟨zp, rfl⟩ := nmE_ok q.1
    obtain ⟨k, p, rfl⟩ := tupE_ok h
    rw [q.2]
    exact ⟨_, _, _, _, rfl⟩
  · cases h
/-- z = (..); z = z + (..) -/
def two1 : List Stmt → Option (Str × List Expr × List Expr)
  | [s1, s2] => (match asg1 s1, asg1 s2 with
    | some (z, a), some (z', b) => (match tupE a, addT z b with
      | some xs, some ys => if z = z' then some (z, xs, ys) else none
      | _, _ => none)
    | _, _ => none)
  | _ => none
theorem two1_ok {b : List Stmt} {z : Str} {xs ys : List Expr} (h : two1 b = some (z, xs, ys)) : ∃ zp k1 p1 a1 zp' zq k2 p2 p3 a2, b = [.Assign [.Name z zp] (.Tuple xs k1 p1) a1, .Assign [.Name z zp'] (.BinOp (.Name z zq) .Add (.Tuple ys k2 p2) p3) a2] := by
  cases b with
  | nil => cases h
  | cons s1 r =>
    cases r with
    | nil => cases h
    | cons s2 r =>
      cases r with
      | cons _ _ => cases h
      | nil =>
        simp only [two1] at h
        cases q1 : asg1 s1 with
        | none => rw [q1] at h; cases h
        | some p =>
          cases q2 : asg1 s2 with
          | none => rw [q1, q2] at h; cases h
          | some p' =>
            obtain ⟨za, a⟩ := p
            obtain ⟨zb, b⟩ := p'
            rw [q1, q2] at h
            simp only at h
            cases q3 : tupE a with
            | none => rw [q3] at h; cases h
            | some u =>
              cases q4 : addT za b with
              | none => rw [q3, q4] at h; cases h
              | some v =>
                rw [q3, q4] at h
                simp only at h
                split at h
                · rename_i e
                  cases h
                  subst e
                  obtain ⟨_, _, rfl⟩ := asg1_ok q1
                  obtain ⟨_, _, rfl⟩ := asg1_ok q2
                  obtain ⟨_, _, rfl⟩ := tupE_ok q3
                  obtain ⟨_, _, _, _, rfl⟩ := addT_ok q4
                  exact ⟨_, _, _, _, _, _, _, _, _, _, rfl⟩
                · cases h
/-- except c as x: .. -/
def hdA (c : Str) : ExceptHandler → Option (Str × List Stmt)
  | .ExceptHandler t n b _ => (match t, n with
    | some t, some n => if nmE c t then some (n, b) else none
    | _, _ => none)
theorem hdA_ok {c x : Str} {h : ExceptHandler} {b : List Stmt} (e : hdA c h = some (x, b)) : ∃ np hp, h = .ExceptHandler (some (.Name c np)) (some x) b hp := by
  cases h with
  | ExceptHandler t n b' pos =>
    cases t with
    | none => cases e
    | some t =>
      cases n with
      | none => cases e
      | some n =>
        simp only [hdA] at e
        split at e
        · rename_i q
          obtain ⟨np, rfl⟩ := nmE_ok q
          cases e
          exact ⟨_, _, rfl⟩
        · cases e
def tryA (c : Str) : Stmt → Option (List Stmt × Str × List Stmt)
  | .Try b hs o f _ => (match hs with
    | [h] => if o.isEmpty && f.isEmpty then (match hdA c h with
      | some p => some (b, p)
      | none => none) else none
    | _ => none)
  | _ => none
theorem tryA_ok {c : Str} {st : Stmt} {b s : List Stmt} {x : Str} (e : tryA c st = some (b, x, s)) : ∃ np hp tp, st = .Try b [.ExceptHandler (some (.Name c np)) (some x) s hp] [] [] tp := by
  cases st <;> simp only [tryA] at e <;> try (cases e; done)
  rename_i b' hs o f tp
  cases hs with
  | nil => cases e
  | cons h r =>
    cases r with
    | cons _ _ => cases e
    | nil =>
      simp only at e
      split at e
      · rename_i q
        rw [Bool.and_eq_true] at q
        cases o with
        | cons _ _ => cases q.1
        | nil =>
          cases f with
          | cons _ _ => cases q.2
          | nil =>
            cases qh : hdA c h with
            | none => rw [qh] at e; cases e
            | some p =>
              rw [qh] at e
              cases e
              obtain ⟨np, hp, rfl⟩ := hdA_ok qh
              exact ⟨_, _, _, rfl⟩
      · cases e
/-- except c: z = w -/
def hd1 (c : Str) : ExceptHandler → Option (Str × Expr)
  | .ExceptHandler t n b _ => (match t with
    | some t => if nmE c t && n.isNone then asgL b else none
    | none => none)
theorem hd1_ok {c : Str} {h : ExceptHandler} {z : Str} {w : Expr} (e : hd1 c h = some (z, w)) : ∃ np zp ap hp, h = .ExceptHandler (some (.Name c np)) none [.Assign [.Name z zp] w ap] hp := by
  cases h with
  | ExceptHandler t n b pos =>
    cases t with
    | none => cases e
    | some t =>
      simp only [hd1] at e
      split at e
      · rename_i q
        rw [Bool.and_eq_true] at q
        obtain ⟨np, rfl⟩ := nmE_ok q.1
        cases n with
        | some _ => cases q.2
        | none =>
          obtain ⟨zp, ap, rfl⟩ := asgL_ok e
          exact ⟨_, _, _, _, rfl⟩
      · cases e
def try1 (c : Str) : Stmt → Option (List Stmt × Str × Expr)
  | .Try b hs o f _ => (match hs with
    | [h] => if o.isEmpty && f.isEmpty then (match hd1 c h with
      | some p => some (b, p)
      | none => none) else none
    | _ => none)
  | _ => none
theorem try1_ok {c : Str} {st : Stmt} {b : List Stmt} {z : Str} {w : Expr} (e : try1 c st = some (b, z, w)) : ∃ np zp ap hp tp, st = .Try b [.ExceptHandler (some (.Name c np)) none [.Assign [.Name z zp] w ap] hp] [] [] tp := by
  cases st <;> simp only [try1] at e <;> try (cases e; done)
  rename_i b' hs o f tp
  cases hs with
  | nil => cases e
  | cons h r =>
    cases r with
    | cons _ _ => cases e
    | nil =>
      simp only at e
      split at e
      · rename_i q
        rw [Bool.and_eq_true] at q
        cases o with
        | cons _ _ => cases q.1
        | nil =>
          cases f with
          | cons _ _ => cases q.2
          | nil =>
            cases qh : hd1 c h with
            | none => rw [qh] at e; cases e
            | some p =>
              rw [qh] at e
              cases e
              obtain ⟨np, zp, ap, hp, rfl⟩ := hd1_ok qh
              exact ⟨_, _, _, _, _, rfl⟩
      · cases e
/-- a value that is written as it is -/
def cstOk : E → Expr → Bool
  | .bl b, .Constant (.bool c) _ _ => b == c
  | .str x, .Constant (.str y) _ _ => decide (x = y)
  | .non, .Constant .none _ _ => true
  | _, _ => false
/-- which parts of a tuple are new lists -/
def flE (T : Tx) : Es → List Bool
  | .nil => []
  | .cons e r => (kd T e == 2) :: flE T r
/-- if c: b -/
def if1 : Stmt → Option (Expr × List Stmt)
  | .If c b [] _ => some (c, b)
  | _ => none
theorem if1_ok {st : Stmt} {c : Expr} {b : List Stmt} (h : if1 st = some (c, b)) : ∃ p, st = .If c b [] p := by
  cases st <;> simp only [if1] at h <;> try (cases h; done)
  rename_i c' b' o p
  cases o with
  | nil => cases h; exact ⟨_, rfl⟩
  | cons _ _ => cases h
def retY : Stmt → Option Expr
  | .Return y _ => y
  | _ => none
def ret1 : List Stmt → Option Expr
  | [s] => retY s
  | _ => none
theorem ret1_ok {b : List Stmt} {y : Expr} (h : ret1 b = some y) : ∃ p, b = [.Return (some y) p] := by
  cases b with
  | nil => cases h
  | cons s r =>
    cases r with
    | cons _ _ => cases h
    | nil =>
      have h' : retY s = some y := h
      cases s <;> simp only [retY] at h' <;> try (cases h'; done)
      subst h'
      exact ⟨_, rfl⟩
/-- x[k] -/
def subK (x : Str) (k : Nat) : Expr → Bool
  | .Subscript a b _ => nmE x a && (match b with
    | .Constant c _ _ => (match c with
      | .int i => i == (k : Nat)
      | _ => false)
    | _ => false)
  | _ => false
theorem subK_ok {x : Str} {k : Nat} {e : Expr} (h : subK x k e = true) : ∃ np j p2 pos, e = .Subscript (.Name x np) (.Constant (.int (k : Nat)) j p2) pos := by
  cases e <;> simp only [subK] at h <;> try (cases h; done)
  rename_i a b pos
  rw [Bool.and_eq_true] at h
  obtain ⟨h1, h2⟩ := h
  obtain ⟨np, rfl⟩ := nmE_ok h1
  cases b <;> simp only at h2 <;> try (cases h2; done)
  rename_i c j p2
  cases c <;> simp only at h2 <;> try (cases h2; done)
  have h2 := eq_of_beq h2
  subst h2
  exact ⟨_, _, _, _, rfl⟩
def strIs (s : Str) : Expr → Bool
  | .Constant c _ _ => (match c with
    | .str t => decide (t = s)
    | _ => false)
  | _ => false
theorem strIs_ok {s : Str} {e : Expr} (h : strIs s e = true) : ∃ k p, e = .Constant (.str s) k p := by
  cases e <;> simp only [strIs] at h <;> try (cases h; done)
  rename_i c k p
  cases c <;> simp only at h <;> try (cases h; done)
  have h := of_decide_eq_true h
  subst h
  exact ⟨_, _, rfl⟩
/-- x[k].append(a) or x[k].clear() -/
def chgE (x : Str) (k : Nat) : Expr → Option (Option Expr)
  | .Call f as kws cpos => (match f with
    | .Attribute t m apos => if subK x k t && (apos.endLine == cpos.line) && kws.isEmpty then (match as with
      | [a] => if decide (m = ("append" : Str)) && plainE a then some (some a) else none
      | [] => if decide (m = ("clear" : Str)) then some none else none
      | _ => none) else none
    | _ => none)
  | _ => none
theorem chgE_ok {x : Str} {k : Nat} {e : Expr} {o : Option Expr} (h : chgE x k e = some o) : ∃ t apos cpos, subK x k t = true ∧ (apos.endLine == cpos.line) = true ∧ ((∃ a, o = some a ∧ plainE a = true ∧ e = .Call (.Attribute t "append" apos) [a] [] cpos) ∨ (o = none ∧ e = .Call (.Attribute t "clear" apos) [] [] cpos)) := by
  cases e <;> simp only [chgE] at h <;> try (cases h; done)
  rename_i f as kws cpos
  cases f <;> simp only at h <;> try (cases h; done)
  rename_i t m apos
  split at h
  · rename_i q
    simp only [Bool.and_eq_true] at q
    obtain ⟨⟨q1, q2⟩, q3⟩ := q
    cases kws with
    | cons _ _ => cases q3
    | nil =>
      cases as with
      | nil =>
        simp only at h
        split at h
        · rename_i q
          cases h
          rw [of_decide_eq_true q]
          exact ⟨t, apos, cpos, q1, q2, .inr ⟨rfl, rfl⟩⟩
        · cases h
      | cons a r =>
        cases r with
        | cons _ _ => cases h
        | nil =>
          simp only at h
          split at h
          · rename_i q
            rw [Bool.and_eq_true] at q
            cases h
            rw [of_decide_eq_true q.1]
            exact ⟨t, apos, cpos, q1, q2, .inl ⟨a, rfl, q.2, rfl⟩⟩
          · cases h
  · cases h
/-- if c: u, or u alone -/
def if3 : Stmt → Option (Option Expr × Expr)
  | .If c b [] _ => (match expr1 b with
    | some u => some (some c, u)
    | none => none)
  | .Expr u _ => some (none, u)
  | _ => none
theorem if3_ok {st : Stmt} {c : Option Expr} {u : Expr} (h : if3 st = some (c, u)) : (∃ z p q, c = some z ∧ st = .If z [.Expr u p] [] q) ∨ (∃ p, c = none ∧ st = .Expr u p) := by
  cases st <;> simp only [if3] at h <;> try (cases h; done)
  · rename_i c' b' o p
    cases o with
    | cons _ _ => cases h
    | nil =>
      simp only at h
      cases q : expr1 b' with
      | none => rw [q] at h; cases h
      | some u' =>
        rw [q] at h
        cases h
        obtain ⟨p', rfl⟩ := expr1_ok q
        exact .inl ⟨_, _, _, rfl, rfl⟩
  · cases h
    exact .inr ⟨_, rfl, rfl⟩
def chgOk (T : Tx) (n : Nat) (N : List Str) (sc : Scope) : Option (Option Expr) → Option E → Bool
  | some (some a), some e => okE T n N sc e a
  | some none, none => true
  | _, _ => false
def condOk (T : Tx) (n : Nat) (N : List Str) (sc : Scope) (c2 : E) : Option Expr → Bool
  | some z => !isIfe c2 && okE T n N sc c2 z
  | none => tyes c2
/-- x = e; if c1: return r; if c2: x[k].append(..) -/
def okLease (T : Tx) (n : Nat) (N : List Str) (sc : Scope) (fr : Nat) (i : Nat) (e c1 r c2 : E) (k : Nat) (o : Option E) (s1 s2 s3 : Stmt) : Bool := match asg1 s1, if1 s2, if3 s3 with
  | some (x, y), some (z1, b1), some (z2, u) => decide (N[i]? = some x) && stoB sc x && visB sc x && okN x && !isLc y && okE T n N sc e y && (kd T e == 3) && !isIfe c1 && okE T n N sc c1 z1 && condOk T n N sc c2 z2 && (fr == 0) && chgOk T n N sc (chgE x k u) o && (match ret1 b1 with
    | some w => okE T n N sc r w && kd T r != 1
    | none => false)
  | _, _, _ => false
/-- try: return y except c: .. -/
def hdB (c : Str) : ExceptHandler → Bool
  | .ExceptHandler t n b _ => (match t with
    | some t => nmE c t && n.isNone && !b.isEmpty
    | none => false)
theorem hdB_ok {c : Str} {h : ExceptHandler} (e : hdB c h = true) : ∃ np b0 s hp, h = .ExceptHandler (some (.Name c np)) none (b0 :: s) hp := by
  cases h with
  | ExceptHandler t n b pos =>
    cases t with
    | none => cases e
    | some t =>
      simp only [hdB, Bool.and_eq_true, Bool.not_eq_true'] at e
      obtain ⟨⟨e1, e2⟩, e3⟩ := e
      obtain ⟨np, rfl⟩ := nmE_ok e1
      cases n with
      | some _ => cases e2
      | none =>
        cases b with
        | nil => cases e3
        | cons b0 s => exact ⟨_, _, _, _, rfl⟩
def tryB1 (c : Str) : Stmt → Option Expr
  | .Try b hs o f _ => (match hs with
    | [h] => if o.isEmpty && f.isEmpty && hdB c h then ret1 b else none
    | _ => none)
  | _ => none
theorem tryB1_ok {c : Str} {st : Stmt} {y : Expr} (e : tryB1 c st = some y) : ∃ p np b0 s hp tp, st = .Try [.Return (some y) p] [.ExceptHandler (some (.Name c np)) none (b0 :: s) hp] [] [] tp := by
  cases st <;> simp only [tryB1] at e <;> try (cases e; done)
  rename_i b' hs o f tp
  cases hs with
  | nil => cases e
  | cons h r =>
    cases r with
    | cons _ _ => cases e
    | nil =>
      simp only at e
      split at e
      · rename_i q
        simp only [Bool.and_eq_true] at q
        obtain ⟨⟨q1, q2⟩, q3⟩ := q
        cases o with
        | cons _ _ => cases q1
        | nil =>
          cases f with
          | cons _ _ => cases q2
          | nil =>
            obtain ⟨np, b0, s, hp, rfl⟩ := hdB_ok q3
            obtain ⟨p, rfl⟩ := ret1_ok e
            exact ⟨_, _, _, _, _, _, rfl⟩
      · cases e
def okEsL (T : Tx) (n : Nat) (N : List Str) (sc : Scope) (x : Str) : Es → List Expr → Bool
  | .nil, [e] => nmE x e
  | .cons e r, y :: ys => plainE y && okE T n N sc e y && kd T e != 1 && okEsL T n N sc x r ys
  | _, _ => false
def nmOf : Expr → Option Str
  | .Name x _ => some x
  | _ => none
theorem nmOf_ok {e : Expr} {x : Str} (h : nmOf e = some x) : ∃ p, e = .Name x p := by
  cases e <;> simp only [nmOf] at h <;> try (cases h; done)
  cases h
  exact ⟨_, rfl⟩
/-- c(a) -/
def mk2 : Expr → Option (Str × Expr)
  | .Call f as kws _ => (match as with
    | [a] => if kws.isEmpty then (match nmOf f with
      | some c => some (c, a)
      | none => none) else none
    | _ => none)
  | _ => none
theorem mk2_ok {e a : Expr} {c : Str} (h : mk2 e = some (c, a)) : ∃ np cp, e = .Call (.Name c np) [a] [] cp := by
  cases e <;> simp only [mk2] at h <;> try (cases h; done)
  rename_i f as kws cp
  cases as with
  | nil => cases h
  | cons b r =>
    cases r with
    | cons _ _ => cases h
    | nil =>
      simp only at h
      cases kws with
      | cons _ _ => cases h
      | nil =>
        rw [if_pos (show ([] : List Keyword).isEmpty = true from rfl)] at h
        cases q : nmOf f with
        | none => rw [q] at h; cases h
        | some c' =>
          rw [q] at h
          cases h
          obtain ⟨np, rfl⟩ := nmOf_ok q
          exact ⟨_, _, rfl⟩
/-- raise c(a) -/
def rais2 : Stmt → Option (Str × Expr)
  | .Raise e u _ => (match e with
    | some e => if u.isNone then mk2 e else none
    | none => none)
  | _ => none
theorem rais2_ok {st : Stmt} {c : Str} {a : Expr} (h : rais2 st = some (c, a)) : ∃ np cp pos, st = .Raise (some (.Call (.Name c np) [a] [] cp)) none pos := by
  cases st <;> simp only [rais2] at h <;> try (cases h; done)
  rename_i e u pos
  cases e with
  | none => cases h
  | some e =>
    simp only at h
    cases u with
    | some _ => cases h
    | none =>
      rw [if_pos (show (none : Option Expr).isNone = true from rfl)] at h
      obtain ⟨np, cp, rfl⟩ := mk2_ok h
      exact ⟨_, _, _, rfl⟩
/-- except c: raise d(v) -/
def hdX (c : Str) : ExceptHandler → Option (Str × Str)
  | .ExceptHandler t n b _ => (match t with
    | some t => if nmE c t && n.isNone then (match b with
      | [s] => (match rais2 s with
        | some (d, a) => (match nmOf a with
          | some v => some (d, v)
          | none => none)
        | none => none)
      | _ => none) else none
    | none => none)
theorem hdX_ok {c d v : Str} {h : ExceptHandler} (e : hdX c h = some (d, v)) : ∃ np hp rp vp cp pos, h = .ExceptHandler (some (.Name c np)) none [.Raise (some (.Call (.Name d rp) [.Name v vp] [] cp)) none pos] hp := by
  cases h with
  | ExceptHandler t n b hp =>
    cases t with
    | none => cases e
    | some t =>
      simp only [hdX] at e
      split at e
      · rename_i q
        rw [Bool.and_eq_true] at q
        obtain ⟨np, rfl⟩ := nmE_ok q.1
        cases n with
        | some _ => cases q.2
        | none =>
          cases b with
          | nil => cases e
          | cons s r =>
            cases r with
            | cons _ _ => cases e
            | nil =>
              simp only at e
              cases qr : rais2 s with
              | none => rw [qr] at e; cases e
              | some p =>
                obtain ⟨d', a⟩ := p
                rw [qr] at e
                simp only at e
                cases qn : nmOf a with
                | none => rw [qn] at e; cases e
                | some v' =>
                  rw [qn] at e
                  cases e
                  obtain ⟨vp, rfl⟩ := nmOf_ok qn
                  obtain ⟨rp, cp, pos, rfl⟩ := rais2_ok qr
                  exact ⟨_, _, _, _, _, _, rfl⟩
      · cases e
/-- try: return y except c: raise d(v) -/
def tryX1 (c : Str) : Stmt → Option (Expr × Str × Str)
  | .Try b hs o f _ => (match hs with
    | [h] => if o.isEmpty && f.isEmpty then (match ret1 b, hdX c h with
      | some y, some p => some (y, p)
      | _, _ => none) else none
    | _ => none)
  | _ => none
theorem tryX1_ok {c d v : Str} {st : Stmt} {y : Expr} (e : tryX1 c st = some (y, d, v)) : ∃ p np hp rp vp cp pos tp, st = .Try [.Return (some y) p] [.ExceptHandler (some (.Name c np)) none [.Raise (some (.Call (.Name d rp) [.Name v vp] [] cp)) none pos] hp] [] [] tp := by
  cases st <;> simp only [tryX1] at e <;> try (cases e; done)
  rename_i b hs o f tp
  cases hs with
  | nil => cases e
  | cons h r =>
    cases r with
    | cons _ _ => cases e
    | nil =>
      simp only at e
      split at e
      · rename_i q
        rw [Bool.and_eq_true] at q
        cases o with
        | cons _ _ => cases q.1
        | nil =>
          cases f with
          | cons _ _ => cases q.2
          | nil =>
            cases q1 : ret1 b with
            | none => rw [q1] at e; cases e
            | some y' =>
              cases q2 : hdX c h with
              | none => rw [q1, q2] at e; cases e
              | some p =>
                rw [q1, q2] at e
                cases e
                obtain ⟨_, rfl⟩ := ret1_ok q1
                obtain ⟨_, _, _, _, _, _, rfl⟩ := hdX_ok q2
                exact ⟨_, _, _, _, _, _, _, _, rfl⟩
      · cases e
/-- x.row -/
def rowA (x : Str) : Expr → Bool
  | .Attribute t m _ => nmE x t && decide (m = ("row" : Str))
  | _ => false
theorem rowA_ok {x : Str} {e : Expr} (h : rowA x e = true) : ∃ xp p, e = .Attribute (.Name x xp) "row" p := by
  cases e <;> simp only [rowA] at h <;> try (cases h; done)
  rename_i t m p
  rw [Bool.and_eq_true, decide_eq_true_eq] at h
  obtain ⟨xp, rfl⟩ := nmE_ok h.1
  rw [h.2]
  exact ⟨_, _, rfl⟩
/-- z = (x.row, isinstance(x, ..), ..) -/
def firstR (x : Str) (s : Stmt) : Option (Str × List Str) := match asg1 s with
  | some (z, e) => (match tupE e with
    | some (a :: xs) => if rowA x a then (match isCs x xs with
      | some n => some (z, n)
      | none => none) else none
    | _ => none)
  | none => none
theorem firstR_ok {x z : Str} {s : Stmt} {n : List Str} (h : firstR x s = some (z, n)) : ∃ zp xp rp xs k p pos, s = .Assign [.Name z zp] (.Tuple (.Attribute (.Name x xp) "row" rp :: xs) k p) pos ∧ isCs x xs = some n := by
  unfold firstR at h
  cases q1 : asg1 s with
  | none => rw [q1] at h; cases h
  | some p1 =>
    obtain ⟨z', e⟩ := p1
    rw [q1] at h
    simp only at h
    cases q2 : tupE e with
    | none => rw [q2] at h; cases h
    | some l =>
      rw [q2] at h
      cases l with
      | nil => cases h
      | cons a xs =>
        simp only at h
        split at h
        · rename_i qa
          cases q3 : isCs x xs with
          | none => rw [q3] at h; cases h
          | some n' =>
            rw [q3] at h
            cases h
            obtain ⟨zp, pos, rfl⟩ := asg1_ok q1
            obtain ⟨k, p, rfl⟩ := tupE_ok q2
            obtain ⟨xp, rp, rfl⟩ := rowA_ok qa
            exact ⟨_, _, _, _, _, _, _, rfl, q3⟩
        · cases h
/-- z = z + (isinstance(x, ..), ..); .. -/
def restR (x z : Str) : List Stmt → Option (List (List Str))
  | [] => some []
  | s :: r => match asg1 s with
    | some (z', e) => if z' = z then (match addT z e with
      | some xs => (match isCs x xs, restR x z r with
        | some n, some ns => some (n :: ns)
        | _, _ => none)
      | none => none) else none
    | none => none
theorem restR_ok {x z : Str} {s : Stmt} {r : List Stmt} {ms : List (List Str)} (h : restR x z (s :: r) = some ms) : ∃ zp zq xs k p pos pos2 n ns, s = .Assign [.Name z zp] (.BinOp (.Name z zq) .Add (.Tuple xs k p) pos) pos2 ∧ isCs x xs = some n ∧ restR x z r = some ns ∧ ms = n :: ns := by
  unfold restR at h
  cases q1 : asg1 s with
  | none => rw [q1] at h; cases h
  | some p1 =>
    obtain ⟨z', e⟩ := p1
    rw [q1] at h
    simp only at h
    split at h
    · rename_i ez
      subst ez
      cases q2 : addT z' e with
      | none => rw [q2] at h; cases h
      | some xs =>
        rw [q2] at h
        simp only at h
        cases q3 : isCs x xs with
        | none => rw [q3] at h; cases h
        | some n =>
          cases q4 : restR x z' r with
          | none => rw [q3, q4] at h; cases h
          | some ns =>
            rw [q3, q4] at h
            cases h
            obtain ⟨zp, pos2, rfl⟩ := asg1_ok q1
            obtain ⟨zq, k, p, pos, rfl⟩ := addT_ok q2
            exact ⟨_, _, _, _, _, _, _, _, _, rfl, q3, rfl, rfl⟩
    · cases h
def okTryR (T : Tx) (n : Nat) (N : List Str) (sc : Scope) (e : E) (c : Str) (i j : Nat) (ns : List (List Str)) (st : Stmt) : Bool := match tryA c st with
  | some (b, x, s) => (match expr1 b, s with
    | some y, s0 :: r => (match firstR x s0 with
      | some (z, n0) => (match restR x z r with
        | some nr => decide (ns = n0 :: nr) && !ns.flatten.isEmpty && glB sc c && okN c && (T.exs.contains c || T.exr.contains c) && !T.cl && !isLc y && okE T n N sc e y && decide (N[i]? = some x) && locB sc x && okN x && decide (N[j]? = some z) && stoB sc z && visB sc z && okN z && glB sc "isinstance" &&
          ns.flatten.all fun C => glB sc C && okN C
        | none => false)
      | none => false)
    | _, _ => false)
  | none => false
def isRais : Stmt → Bool
  | .Raise _ _ _ => true
  | _ => false
mutual
def okS (T : Tx) (n : Nat) (N : List Str) (sc : Scope) (fr : Nat) : S → Stmt → Bool
  | .set i e, .Assign [.Name x py] y _ => decide (N[i]? = some x) && stoB sc x && lcSwap sc x py y && okE T n N sc e y && kd T e != 1
  | .setO i e, .Assign [.Name x py] y _ => decide (N[i]? = some x) && stoB sc x && lcSwap sc x py y && okE T n N sc e y && kd T e == 2
  | .tup is e, .Assign [t] y _ => okGS N sc (.tp is) t && !isLc y && !isTup y && okE T n N sc e y && kd T e != 1
  | .app i e, .Expr (.Call (.Attribute (.Name x _) f apos) [y] [] cpos) _ => decide (N[i]? = some x) && visB sc x && okN x && decide (f = ("append" : Str)) && (apos.endLine == cpos.line) && plainE y && okE T n N sc e y && kd T e != 1
  | .rev i, .Expr (.Call (.Attribute (.Name x _) f apos) [] [] cpos) _ => decide (N[i]? = some x) && visB sc x && okN x && decide (f = ("reverse" : Str)) && (apos.endLine == cpos.line)
  | .ext i e, .Expr (.Call (.Attribute (.Name x _) f apos) [y] [] cpos) _ => decide (N[i]? = some x) && visB sc x && okN x && decide (f = ("extend" : Str)) && (apos.endLine == cpos.line) && plainE y && okE T n N sc e y && kd T e == 2
  | .ifs c a b, .If x p q _ => !isIfe c && okE T n N sc c x && okSs T n N sc fr a p && okSs T n N sc fr b q
  | .for_ _ tg it body, .For t x b [] _ => !isOwn it && okGS N sc tg t && plainE x && okI T n N sc it x && okSs T n N sc fr body b
  | .whil _ _ c body, .While x b [] _ => !isIfe c && okE T n N sc c x && okSs T n N sc fr body b
  | .ret e, .Return (some y) _ => ((fr == 0) || ((fr == 3) && isNon e)) && okE T n N sc e y && kd T e != 1
  | .retO e, .Return (some y) _ => (fr == 2) && okE T n N sc e y && kd T e == 2
  | .retV i, .Return (some (.Name x _)) _ => (fr == 2) && decide (N[i]? = some x) && visB sc x && okN x
  | .retN, .Return none _ => (fr == 0)
  | .retF fl es, .Return (some (.Tuple xs _ _)) _ => (fr == 3) && decide (fl = flE T es) && okEs T n N sc [] es xs
  | .retL es i, .Return (some (.Tuple xs _ _)) _ => (fr == 3) && (match N[i]? with
    | some x => visB sc x && okN x && okEsL T n N sc x es xs
    | none => false)
  | .retC e, .Return (some y) _ => (fr == 3) && okE T n N sc e y && kd T e == 3
  | .expr e, .Expr y _ => !isLc y && okE T n N sc e y
  | .pass, .Pass _ => true
  | .pass, .Expr (.Constant (.str _) _ _) _ => true
  | .cont, .Continue _ => true
  | .nope, st => isRais st
  | .tryB e c, st => (match tryB1 c st with
    | some y => (fr == 0) && glB sc c && okN c && T.exs.contains c && !T.cl && okE T n N sc e y && kd T e != 1
    | none => false)
  | .raisX c e, st => (match rais2 st with
    | some (c', y) => decide (c' = c) && glB sc c && okN c && T.exr.contains c && !T.cl && decide (2 ≤ n) && plainE y && okE T n N sc e y && kd T e != 1
    | none => false)
  | .tryR e c i j ns, st => okTryR T n N sc e c i j ns st
  | .rais c, st => rais1 c st && glB sc c && okN c && T.exs.contains c
  | .tryI e c i j n1 n2, st => (match tryA c st with
    | some (b, x, s) => (match expr1 b, two1 s with
      | some y, some (z, xs, ys) => glB sc c && okN c && T.exs.contains c && !T.cl && !isLc y && okE T n N sc e y && decide (N[i]? = some x) && locB sc x && okN x && decide (N[j]? = some z) && stoB sc z && visB sc z && okN z && glB sc "isinstance" &&
        decide (isCs x xs = some n1) && decide (isCs x ys = some n2) && (n1 ++ n2).all fun C => glB sc C && okN C
      | _, _ => false)
    | none => false)
  | .tryE i e c j h, st => (match try1 c st with
    | some (b, z, w) => glB sc c && okN c && decide (N[j]? = some z) && stoB sc z && cstOk h w && T.exs.contains c && !T.cl && (match i with
      | none => (match expr1 b with
        | some y => !isLc y && okE T n N sc e y
        | none => false)
      | some i => (match asgL b with
        | some (u, y) => !isLc y && okE T n N sc e y && kd T e != 1 && decide (N[i]? = some u) && stoB sc u
        | none => false))
    | none => false)
  | _, _ => false
def okSs (T : Tx) (n : Nat) (N : List Str) (sc : Scope) (fr : Nat) : Ss → List Stmt → Bool
  | .nil, [] => true
  | .cons s r, x :: xs => okS T n N sc fr s x && okSs T n N sc fr r xs
  | .frz _ r, xs => okSs T n N sc fr r xs
  | .lease i e c1 r c2 k o rest, x1 :: x2 :: x3 :: xs => okLease T n N sc fr i e c1 r c2 k o x1 x2 x3 && okSs T n N sc fr rest xs
  | _, _ => false
end

/-! ### the state of a body -/
structure SR (K : PySem.W.Frag) (He Ge : Hp) (ρ : En) (σ : L2.St) (H G : Hp) : Prop where
  ext : Ext He Ge H G
  er : ER K He ρ σ H G
  own : ∀ (i : Nat) (ds : List Dat) (a : Addr), ρ[i]? = some (.ow ds) → σ[i]? = some (some (.ref a)) → He a = none
  sep : ∀ (i j : Nat) (ds es : List Dat) (a : Addr), i ≠ j → ρ[i]? = some (.ow ds) → ρ[j]? = some (.ow es) → σ[i]? = some (some (.ref a)) → σ[j]? = some (some (.ref a)) → False
section
variable {X : Cx} {T : Tx} {P : Pg} {n : Nat} {W : WX} {fr : Nat}
variable {He Ge H G H1 G1 : Hp} {ρ : En} {σ : L2.St}
theorem SR.on (s : SR X.K He Ge ρ σ H G) (x : Ext H G H1 G1) : SR X.K He Ge ρ σ H1 G1 := ⟨s.ext.trans x, s.er.ext x, s.own, s.sep⟩
theorem Ext.rebase (a : Ext He Ge H1 G1) (b : Ext He G1 H G) : Ext He Ge H G :=
  ⟨b.all, a.stl.trans b.stl, b.sub, fun c q => by
    rcases b.new c q with z | z
    · exact a.new c z
    · exact .inr z⟩
theorem Ext.base (a : Ext He Ge H G) : Ext He G H G := ⟨a.all, Same.refl G, a.sub, fun c q => .inl q⟩
theorem SR.base (s : SR X.K He Ge ρ σ H G) : SR X.K He G ρ σ H G := ⟨s.ext.base, s.er, s.own, s.sep⟩
theorem SR.rebase (a : Ext He Ge H1 G1) (s : SR X.K He G1 ρ σ H G) : SR X.K He Ge ρ σ H G := ⟨a.rebase s.ext, s.er, s.own, s.sep⟩
theorem SR.set (s : SR X.K He Ge ρ σ H G) {v : V} {d : Dat} (r : Rep X.K G v d) (i : Nat) : SR X.K He Ge (ρ.set i (.fz d)) (σ.set i (some v)) H G := by
  have key : ∀ (j : Nat) (ds : List Dat), (ρ.set i (.fz d))[j]? = some (.ow ds) → j ≠ i ∧ ρ[j]? = some (.ow ds) := fun j ds e => by
    by_cases h : i = j
    · subst h
      rw [List.getElem?_set] at e
      simp at e
    · rw [List.getElem?_set_ne h] at e
      exact ⟨fun z => h z.symm, e⟩
  refine ⟨s.ext, s.er.set r i, fun j ds a e1 e2 => ?_, fun j k ds es a hjk e1 e2 e3 e4 => ?_⟩
  · obtain ⟨n1, e1⟩ := key j ds e1
    rw [List.getElem?_set_ne (fun z => n1 z.symm)] at e2
    exact s.own j ds a e1 e2
  · obtain ⟨n1, e1⟩ := key j ds e1
    obtain ⟨n2, e2⟩ := key k es e2
    rw [List.getElem?_set_ne (fun z => n1 z.symm)] at e3
    rw [List.getElem?_set_ne (fun z => n2 z.symm)] at e4
    exact s.sep j k ds es a hjk e1 e2 e3 e4
/-- what is forgotten -/
theorem SR.un (s : SR X.K He Ge ρ σ H G) (tmp : List Nat) : SR X.K He Ge (unS tmp ρ) σ H G := by
  have key : ∀ (j : Nat) (z : Sl), (unS tmp ρ)[j]? = some z → z = .un ∨ ρ[j]? = some z := fun j z e => by
    rw [unS_get] at e
    split at e
    · cases e; exact .inl rfl
    · exact .inr e
  refine ⟨s.ext, ⟨s.er.bas, s.er.sub, by rw [unS_length]; exact s.er.len, fun j z e => ?_⟩, fun j ds a e1 e2 => ?_, fun j k ds es a hjk e1 e2 e3 e4 => ?_⟩
  · rw [unS_get] at e
    split at e
    · rename_i h
      cases e
      have hj : j < σ.length := by rw [← s.er.len]; exact h.2
      exact ⟨σ[j], by simp [hj], trivial⟩
    · exact s.er.at_ j z e
  · rcases key j _ e1 with z | z
    · cases z
    · exact s.own j ds a z e2
  · rcases key j _ e1 with z | z
    · cases z
    · rcases key k _ e2 with y | y
      · cases y
      · exact s.sep j k ds es a hjk z y e3 e4
/-- a list of one's own, new -/
theorem SR.setO (s : SR X.K He Ge ρ σ H G) {H1 G1 : Hp} (x : Ext H G H1 G1) {a : Addr} {vs : List V} {ds : List Dat} (na : H a = none) (ga : G1 a = none) (ha : H1 a = some (.lst vs)) (r : Reps X.K G1 vs ds) (i : Nat) :
    SR X.K He Ge (ρ.set i (.ow ds)) (σ.set i (some (.ref a))) H1 G1 := by
  have s1 := s.on x
  have key : ∀ (j : Nat) (z : Sl), (ρ.set i (.ow ds))[j]? = some z → (j = i ∧ z = .ow ds ∧ i < ρ.length) ∨ (j ≠ i ∧ ρ[j]? = some z) := fun j z e => by
    by_cases h : i = j
    · subst h
      by_cases hi : i < ρ.length
      · rw [List.getElem?_set_self hi] at e; cases e; exact .inl ⟨rfl, rfl, hi⟩
      · rw [List.getElem?_eq_none (by rw [List.length_set]; omega)] at e; cases e
    · rw [List.getElem?_set_ne h] at e
      exact .inr ⟨fun z => h z.symm, e⟩
  have old : ∀ (j : Nat) (es : List Dat) (b : Addr), ρ[j]? = some (.ow es) → σ[j]? = some (some (.ref b)) → b ≠ a := fun j es b e1 e2 z => by
    obtain ⟨o, h1, b', ws, rfl, h2, _⟩ := s.er.at_ j _ e1
    rw [e2] at h1
    cases h1
    rw [z, na] at h2
    cases h2
  refine ⟨s1.ext, ⟨s1.er.bas, s1.er.sub, by simp [s1.er.len], fun j z e => ?_⟩, fun j es b e1 e2 => ?_, fun j k ds1 es b hjk e1 e2 e3 e4 => ?_⟩
  · rcases key j z e with ⟨rfl, rfl, hi⟩ | ⟨h, e⟩
    · exact ⟨_, List.getElem?_set_self (by rw [← s1.er.len]; exact hi), a, vs, rfl, ha, ga, r⟩
    · obtain ⟨o, h1, h2⟩ := s1.er.at_ j z e
      exact ⟨o, by rw [List.getElem?_set_ne (fun z => h z.symm)]; exact h1, h2⟩
  · rcases key j _ e1 with ⟨rfl, _, hi⟩ | ⟨h, e⟩
    · rw [List.getElem?_set_self (by rw [← s1.er.len]; exact hi)] at e2
      cases e2
      exact s.ext.all.free na
    · rw [List.getElem?_set_ne (fun z => h z.symm)] at e2
      exact s.own j es b e e2
  · rcases key j _ e1 with ⟨rfl, _, hi⟩ | ⟨h, e⟩
    · rw [List.getElem?_set_self (by rw [← s1.er.len]; exact hi)] at e3
      cases e3
      rcases key k _ e2 with ⟨rfl, _, _⟩ | ⟨h', e'⟩
      · exact hjk rfl
      · rw [List.getElem?_set_ne (fun z => h' z.symm)] at e4
        exact old k es _ e' e4 rfl
    · rw [List.getElem?_set_ne (fun z => h z.symm)] at e3
      rcases key k _ e2 with ⟨rfl, _, hi⟩ | ⟨h', e'⟩
      · rw [List.getElem?_set_self (by rw [← s1.er.len]; exact hi)] at e4
        cases e4
        exact old j ds1 _ e e3 rfl
      · rw [List.getElem?_set_ne (fun z => h' z.symm)] at e4
        exact s.sep j k ds1 es b hjk e e' e3 e4
/-- one's own list is changed -/
theorem SR.chg (s : SR X.K He Ge ρ σ H G) {i : Nat} {ds es : List Dat} {a : Addr} {ws : List V} (e : ρ[i]? = some (.ow ds)) (ha : σ[i]? = some (some (.ref a))) (r : Reps X.K G ws es) :
    SR X.K He Ge (ρ.set i (.ow es)) σ (upd H a (.lst ws)) G := by
  have na := s.own i ds a e ha
  obtain ⟨o, h1, a', vs, ea, h2, ga, _⟩ := s.er.at_ i _ e
  rw [ha] at h1
  cases h1
  cases ea
  have hi : i < ρ.length := (List.getElem?_eq_some_iff.mp e).1
  have key : ∀ (j : Nat) (z : Sl), (ρ.set i (.ow es))[j]? = some z → (j = i ∧ z = .ow es) ∨ (j ≠ i ∧ ρ[j]? = some z) := fun j z q => by
    by_cases h : i = j
    · subst h
      rw [List.getElem?_set_self hi] at q; cases q; exact .inl ⟨rfl, rfl⟩
    · rw [List.getElem?_set_ne h] at q
      exact .inr ⟨fun z => h z.symm, q⟩
  refine ⟨⟨fun b u q => ?_, s.ext.stl, fun b u q => ?_, s.ext.new⟩, ⟨fun b u q => ?_, fun b u q => ?_, by simp [s.er.len], fun j z q => ?_⟩, fun j fs b q1 q2 => ?_, fun j k fs gs b hjk q1 q2 q3 q4 => ?_⟩
  · rw [upd_ne (ne_of_none q na)]; exact s.ext.all _ _ q
  · rw [upd_ne (ne_of_none q ga)]; exact s.ext.sub _ _ q
  · rw [upd_ne (ne_of_none q na)]; exact s.er.bas _ _ q
  · rw [upd_ne (ne_of_none q ga)]; exact s.er.sub _ _ q
  · rcases key j z q with ⟨rfl, rfl⟩ | ⟨h, q⟩
    · exact ⟨_, ha, a, ws, rfl, upd_same, ga, r⟩
    · obtain ⟨o, h1, h3⟩ := s.er.at_ j z q
      refine ⟨o, h1, ?_⟩
      cases z with
      | un => trivial
      | fz d => exact h3
      | ln d => exact h3
      | ex b dx c y =>
        refine ⟨h3.1, ?_⟩
        have h4 := h3.2
        cases y with
        | none => exact h4
        | some d =>
          obtain ⟨b, v, e1, e2, e3⟩ := h4
          refine ⟨b, v, e1, ?_, e3⟩
          rw [upd_ne]
          · exact e2
          · intro z
            subst z
            rw [h2] at e2
            cases e2
      | ow fs =>
        obtain ⟨b, us, rfl, k1, k2, k3⟩ := h3
        refine ⟨b, us, rfl, ?_, k2, k3⟩
        rw [upd_ne]
        · exact k1
        · intro z
          subst z
          exact s.sep j i fs ds b h q e h1 ha
  · rcases key j _ q1 with ⟨rfl, _⟩ | ⟨h, q⟩
    · rw [ha] at q2; cases q2; exact na
    · exact s.own j fs b q q2
  · rcases key j _ q1 with ⟨rfl, _⟩ | ⟨h, q⟩
    · rcases key k _ q2 with ⟨rfl, _⟩ | ⟨h', q'⟩
      · exact hjk rfl
      · exact s.sep j k ds gs b hjk e q' q3 q4
    · rcases key k _ q2 with ⟨rfl, _⟩ | ⟨h', q'⟩
      · exact s.sep j k fs ds b hjk q e q3 q4
      · exact s.sep j k fs gs b hjk q q' q3 q4
/-- one's own list is kept as it is from here on -/
theorem SR.frz (s : SR X.K He Ge ρ σ H G) {i : Nat} {ds : List Dat} (e : ρ[i]? = some (.ow ds)) : ∃ G1 a vs, SR X.K He Ge (ρ.set i (.fz (.list ds))) σ H G1 ∧ σ[i]? = some (some (.ref a)) ∧ He a = none ∧ G1 a = some (.lst vs) ∧ Reps X.K G1 vs ds ∧ Same G G1 := by
  obtain ⟨o, h1, a, vs, rfl, h2, ga, r⟩ := s.er.at_ i _ e
  have na := s.own i ds a e h1
  have hi : i < ρ.length := (List.getElem?_eq_some_iff.mp e).1
  have g1 : Same G (upd G a (.lst vs)) := fun b u q => by rw [upd_ne (ne_of_none q ga)]; exact q
  have sub : Same (upd G a (.lst vs)) H := fun b u q => by
    by_cases hb : b = a
    · subst hb; rw [upd_same] at q; rw [← q]; exact h2
    · rw [upd_ne hb] at q; exact s.er.sub _ _ q
  have key : ∀ (j : Nat) (z : Sl), (ρ.set i (.fz (.list ds)))[j]? = some z → (j = i ∧ z = .fz (.list ds)) ∨ (j ≠ i ∧ ρ[j]? = some z) := fun j z q => by
    by_cases h : i = j
    · subst h
      rw [List.getElem?_set_self hi] at q; cases q; exact .inl ⟨rfl, rfl⟩
    · rw [List.getElem?_set_ne h] at q
      exact .inr ⟨fun z => h z.symm, q⟩
  refine ⟨upd G a (.lst vs), a, vs, ⟨⟨s.ext.all, s.ext.stl.trans g1, sub, fun b q => ?_⟩, ⟨s.er.bas, sub, by simp [s.er.len], fun j z q => ?_⟩, fun j fs b q1 q2 => ?_, fun j k fs gs b hjk q1 q2 q3 q4 => ?_⟩, h1, na, upd_same, r.mono g1, g1⟩
  · by_cases hb : b = a
    · subst hb; exact .inr na
    · rw [upd_ne hb] at q; exact s.ext.new b q
  · rcases key j z q with ⟨rfl, rfl⟩ | ⟨h, q⟩
    · exact ⟨_, h1, _, rfl, .lst (SqL.of upd_same) (r.mono g1)⟩
    · obtain ⟨o, k1, k2⟩ := s.er.at_ j z q
      refine ⟨o, k1, ?_⟩
      cases z with
      | un => trivial
      | fz d => obtain ⟨v, ev, k⟩ := k2; exact ⟨v, ev, k.mono g1⟩
      | ln d => obtain ⟨b, us, ev, k, kk⟩ := k2; exact ⟨b, us, ev, k, kk.mono g1⟩
      | ex b dx c y =>
        refine ⟨k2.1, ?_⟩
        have k3 := k2.2
        cases y with
        | none => exact k3
        | some d => obtain ⟨b, v, e1, e2, e3⟩ := k3; exact ⟨b, v, e1, e2, e3.mono g1⟩
      | ow fs =>
        obtain ⟨b, us, rfl, k3, k4, k5⟩ := k2
        refine ⟨b, us, rfl, k3, ?_, k5.mono g1⟩
        rw [upd_ne]
        · exact k4
        · intro z
          subst z
          exact s.sep j i fs ds b h q e k1 h1
  · rcases key j _ q1 with ⟨_, z⟩ | ⟨h, q⟩
    · cases z
    · exact s.own j fs b q q2
  · rcases key j _ q1 with ⟨_, z⟩ | ⟨h, q⟩
    · cases z
    · rcases key k _ q2 with ⟨_, z⟩ | ⟨h', q'⟩
      · cases z
      · exact s.sep j k fs gs b hjk q q' q3 q4
theorem SR.all_set {Q : L2.St → Hp → Prop} : ∀ {is : List Nat} {vs : List V} {ds : List Dat} {ρ : En} {σ : L2.St}, SR X.K He Ge ρ σ H G → Reps X.K G vs ds → ds.length = is.length →
    (∀ σ', SR X.K He Ge ((is.zip ds).foldl (fun r p => r.set p.1 (.fz p.2)) ρ) σ' H G → Q σ' H) → gAll is vs σ H Q
  | [], vs, ds, ρ, σ, er, r, hl, c => by
    cases ds with
    | nil => cases r; exact ⟨rfl, c σ er⟩
    | cons _ _ => simp at hl
  | i :: is, vs, ds, ρ, σ, er, r, hl, c => by
    cases ds with
    | nil => simp at hl
    | cons d ds =>
      cases r with
      | cons r t => exact ⟨_, _, rfl, SR.all_set (er.set r i) t (by simpa using hl) c⟩
theorem SR.g_set {tg : Tg} {v : V} {d : Dat} {ρ1 : En} {Q : L2.St → Hp → Prop} (s : SR X.K He Ge ρ σ H G) (r : Rep X.K G v d) (h : setT tg d ρ = .ok ρ1)
    (c : ∀ σ', SR X.K He Ge ρ1 σ' H G → Q σ' H) : tG X.K tg v σ H Q := by
  cases tg with
  | nm i =>
    simp only [setT] at h
    cases h
    exact c _ (s.set r i)
  | tp is =>
    cases d <;> simp only [setT] at h <;> try (cases h; done)
    rename_i ds
    split at h <;> cases h
    rename_i hl
    cases r with
    | tup q rr =>
      refine ⟨_, _, rfl, sqT_keep s.er.sub q, by rw [rr.length, hl], ?_⟩
      exact SR.all_set s rr hl c

/-! ### readings -/
def EndS (X : Cx) (W : WX) (fr : Nat) (He Ge : Hp) (D : Ends) : Out → Prop
  | .nx ρ => ∀ σ H G, SR X.K He Ge ρ σ H G → D.nx σ H
  | .ct ρ => ∀ σ H G, SR X.K He Ge ρ σ H G → D.ct σ H
  | .ret d => ∀ v H G, Ext He Ge H G → RK X.K fr He H G v d → D.rt v H
  | .exc c x => ∀ cls dx σ H G, Ext He Ge H G → XR X.K X.mg H G cls dx c x → W cls dx σ H
  | .bad => False
def tS (X : Cx) (W : WX) (fr : Nat) (f : En → Out) : TS := fun D σ H => ∃ He Ge G ρ, SR X.K He Ge ρ σ H G ∧ EndS X W fr He Ge D (f ρ)
theorem EndS.rebase {D : Ends} {o : Out} (a : Ext He Ge H1 G1) (h : EndS X W fr He Ge D o) : EndS X W fr He G1 D o := by
  cases o with
  | nx ρ => exact fun σ H G s => h σ H G (s.rebase a)
  | ct ρ => exact fun σ H G s => h σ H G (s.rebase a)
  | ret d => exact fun v H G x r => h v H G (a.rebase x) r
  | exc c z => exact fun cls dx σ H G x r => h cls dx σ H G (a.rebase x) r
  | bad => exact h
theorem PS.imp {st : Stmt} {t t' : TS} (h : PS X st t) (i : ∀ D σ H, t' D σ H → t D σ H) : PS X st t' := ⟨fun pins s σ H D I q => h.run pins s σ H D I (i D σ H q)⟩
theorem PSs.imp {st : List Stmt} {t t' : TS} (h : PSs X st t) (i : ∀ D σ H, t' D σ H → t D σ H) : PSs X st t' := ⟨fun pins s σ H D I q => h.run pins s σ H D I (i D σ H q)⟩
/-- a term, then a statement -/
theorem bndS {a : E} {f : Dat → Out} {j : Nat} {D : Ends} {Q' : VK} (s : SR X.K He Ge ρ σ H G) (h : EndS X W fr He Ge D (Out.of (ev P a ρ) f))
    (c : ∀ d x H1 G1, Ext H G H1 G1 → RK X.K j H H1 G1 x d → SR X.K He Ge ρ σ H1 G1 → EndS X W fr He Ge D (f d) → Q' x H1) : tK X P W j a σ H Q' := by
  refine ⟨He, G, ρ, s.er, ?_⟩
  cases q : ev P a ρ with
  | ok d => rw [q] at h; exact fun v H' G' x r => c d v H' G' x r (s.on x) h
  | exc z y => rw [q] at h; exact fun cls dx H' G' x r => h cls dx σ H' G' (s.ext.trans x) r
  | bad => rw [q] at h; exact h
theorem bndST {a : E} {f : Bool → Out} {D : Ends} {Q' : Bool → Hp → Prop} (s : SR X.K He Ge ρ σ H G) (h : EndS X W fr He Ge D (Out.of (ev P a ρ >>= fun d => truD d) f))
    (c : ∀ b H1 G1, Ext H G H1 G1 → SR X.K He Ge ρ σ H1 G1 → EndS X W fr He Ge D (f b) → Q' b H1) : tT X P W a σ H Q' := by
  refine ⟨He, G, ρ, s.er, ?_⟩
  cases q : (ev P a ρ >>= fun d => truD d) with
  | ok d => rw [q] at h; exact fun H' G' x => c d H' G' x (s.on x) h
  | exc z y => rw [q] at h; exact fun cls dx H' G' x r => h cls dx σ H' G' (s.ext.trans x) r
  | bad => rw [q] at h; exact h
structure Gs (X : Cx) (T : Tx) (P : Pg) (n : Nat) (W : WX) : Prop extends Gd X T P n W where
  pass : PassesOwn (model X.prog X.w) X.A X.env X.xe
  fnT : ∀ x, X.fn x = true
  kind : X.env.scope.kind = .function
  stk : X.stack = X.env :: X.outer
  frm : X.env.frame = some X.env.locals
end
end NW
end

section
set_option maxHeartbeats 8000000
namespace NW
open PySem PySem.Spec PyProof.Rows L2
theorem swaps_plain {e : Expr} {t : Option Expr} {l : Nat} {env : Env} (h : isLc e = false) : swapsWith e t l env = pure false := by
  cases e <;> first | rfl | (simp [isLc] at h)
theorem swaps_cell {e : Expr} {gs : List Comprehension} {scope : Scope} {pos py : Pos} {y : Str} {l : Nat} {env : Env} (hy : env.scope.names.lookup y = some .cell) : swapsWith (.ListComp e gs scope pos) (some (.Name y py)) l env = pure false := by
  have ky : env.kindOf y = some .cell := hy
  unfold swapsWith
  simp only [ky]
  have z : ((some NameKind.cell : Option NameKind) == some NameKind.local) = false := by decide
  simp only [z, Bool.and_false, Bool.false_and]
section
variable {X : Cx} {T : Tx} {P : Pg} {n : Nat} {W : WX} {fr : Nat} {x y : Expr} {pos py : Pos} {e : E}
theorem loc_sto {sc : Scope} {x : Str} (h : stoB sc x = true) : Loc sc x := by
  unfold stoB at h
  split at h
  · rename_i q; exact .inl q
  · rename_i q; exact .inr q
  · cases h
theorem pgs_allS (nd : X.N.Nodup) (fnT : ∀ x, X.fn x = true) : ∀ {is : List Nat} {es : List Expr}, is.length = es.length → ((is.zip es).all fun p => match p.2 with
    | .Name x _ => decide (X.N[p.1]? = some x) && stoB X.env.scope x
    | _ => false) = true → PGs X es (gAll is) ∧ (assignEach es X.env).length = is.length ∧ (assignEach es X.env).findIdx? (·.1) = none
  | [], [], _, _ => ⟨pgs_nil, rfl, rfl⟩
  | [], _ :: _, h, _ => by simp at h
  | _ :: _, [], h, _ => by simp at h
  | i :: is, e :: es, hl, h => by
    rw [List.zip_cons_cons, List.all_cons, Bool.and_eq_true] at h
    obtain ⟨i1, i2, i3⟩ := pgs_allS nd fnT (is := is) (es := es) (by simpa using hl) h.2
    cases e <;> try (exact absurd h.1 Bool.false_ne_true)
    rename_i x p
    have h1 : X.N[i]? = some x ∧ stoB X.env.scope x = true := by simpa using h.1
    refine ⟨pgs_cons (pg_name nd h1.1 (loc_sto h1.2) (.inl (fnT x))) i1 rfl, ?_, ?_⟩
    · show (assignEach es X.env).length + 1 = is.length + 1
      rw [i2]
    · show List.findIdx? (·.1) ((false, _) :: assignEach es X.env) = none
      rw [List.findIdx?_cons, i3]
      rfl
theorem s_gS {tg : Tg} (g : Gs X T P n W) (h : okGS X.N X.env.scope tg x = true) : PG X x (tG X.K tg) := by
  cases tg with
  | nm i =>
    cases x <;> simp only [okGS] at h <;> try (cases h; done)
    simp only [Bool.and_eq_true, decide_eq_true_eq] at h
    exact pg_name g.nd h.1 (loc_sto h.2) (.inl (g.fnT _))
  | tp is =>
    cases x <;> simp only [okGS] at h <;> try (cases h; done)
    rename_i es k p
    rw [Bool.and_eq_true] at h
    obtain ⟨i1, i2, i3⟩ := pgs_allS g.nd g.fnT (of_decide_eq_true h.1) h.2
    exact pg_tup g.calm i1 i2 i3
/-- a plain store -/
theorem c_set {i : Nat} : ∀ (D : Ends) (σ : L2.St) (H : Hp), tS X W fr (exS P (.set i e)) D σ H → tAsg (tK X P W 0 e) (gName i) D σ H := fun D σ H ⟨He, Ge, G, ρ, s, h⟩ => by
  simp only [exS] at h
  refine bndS s h fun d v H1 G1 x1 r1 s1 q1 => ?_
  exact q1 _ H1 G1 (s1.set r1 i)
theorem c_setO {i : Nat} : ∀ (D : Ends) (σ : L2.St) (H : Hp), tS X W fr (exS P (.setO i e)) D σ H → tAsg (tK X P W 2 e) (gName i) D σ H := fun D σ H ⟨He, Ge, G, ρ, s, h⟩ => by
  simp only [exS] at h
  refine bndS s h fun d v H1 G1 x1 r1 s1 q1 => ?_
  obtain ⟨a, vs, ds, rfl, rfl, na, ga, ha, rr⟩ := r1
  exact q1 _ H1 G1 (s.setO x1 na ga ha rr i)
/-- the store of any term -/
theorem s_store {i : Nat} {nm : Str} {t : TE} (g : Gs X T P n W) (hi : X.N[i]? = some nm) (hs : stoB X.env.scope nm = true) (hl : isLc y = false) (he : PE X y t) : PS X (.Assign [.Name nm py] y pos) (tAsg t (gName i)) :=
  ps_set g.nd hi (loc_sto hs) he (swaps_plain hl) (.inl (g.fnT nm))
theorem s_storeC {i : Nat} {nm : Str} {t : TE} {elt : Expr} {cs : List Comprehension} {scope : Scope} {p : Pos} (g : Gs X T P n W) (hi : X.N[i]? = some nm) (hc : X.env.scope.names.lookup nm = some .cell) (he : PE X (.ListComp elt cs scope p) t) :
    PS X (.Assign [.Name nm py] (.ListComp elt cs scope p) pos) (tAsg t (gName i)) :=
  ps_set g.nd hi (.inr hc) he (swaps_cell hc) (.inl (g.fnT nm))
theorem tAsg_mono {t t' : TE} {g : TG} (h : ∀ σ H Q, t' σ H Q → t σ H Q) (D : Ends) (σ : L2.St) (H : Hp) (q : tAsg t' g D σ H) : tAsg t g D σ H := h _ _ _ q
/-- the parts of a comprehension that is stored -/
theorem s_lcStore {own : List Nat} {tg : Tg} {it : NW.It} {tt elt : E} {i : Nat} {nm : Str} {z : Expr} {cs : List Comprehension} {scope : Scope} {p : Pos} (g : Gs X T P n W) (hi : X.N[i]? = some nm) (hl : locB X.env.scope nm = true) (hp : (py.line == p.line) = true)
    (ha : (scope.names.any fun (n, k) => n == nm && (k == .local || k == .cell)) = false) (h : okE T n X.N X.env.scope (.lc own tg it tt elt) (.ListComp z cs scope p) = true) :
    PS X (.Assign [.Name nm py] (.ListComp z cs scope p) pos) (tAsg (tK X P W 2 (.lc own tg it tt elt)) (gName i)) := by
  match cs, h with
  | [⟨tg', iter, ifs, asy⟩], h =>
    simp only [okE, Bool.and_eq_true, bne_iff_ne, decide_eq_true_eq] at h
    obtain ⟨⟨⟨⟨⟨⟨⟨⟨rfl, h1⟩, h2⟩, h3⟩, h4⟩, h5⟩, h6⟩, h7⟩, h8⟩ := h
    have hif : ifs = [] → tt = .bl true := fun e => by
      subst e
      have h7' : tyes tt = true := h7
      cases tt <;> simp [tyes] at h7'
      subst h7'
      rfl
    have hI := snd_I it X W tg' iter g.toGd h4
    have hG : ∀ (s : Shared) (H : Hp) (C : Addr) (cl : List (Str × Addr)) (fp : List Addr), PG (X.blk s H scope (compEnvC scope cl C X.env) fp) tg' (tG X.K tg) := fun s H C cl fp => s_g (X := X.blk s H scope (compEnvC scope cl C X.env) fp) (tg := tg) g.calm g.nd h5
    have hT : ∀ (s : Shared) (H : Hp) (C : Addr) (cl : List (Str × Addr)) (fp : List Addr), PTs (X.blk s H scope (compEnvC scope cl C X.env) fp) ifs (tIfs X P ifs tt) := fun s H C cl fp => by
      match ifs, h7 with
      | [], _ => exact pts_nil
      | [c], h7 =>
        simp only [Bool.and_eq_true, Bool.not_eq_true'] at h7
        exact pts_one ((snd_E tt (X.blk s H scope (compEnvC scope cl C X.env) fp) _ _ (g.toGd.blk s H scope _ fp) h7.2).pt h7.1)
      | _ :: _ :: _, h7 => cases h7
    have hE : ∀ (s : Shared) (H : Hp) (C : Addr) (cl : List (Str × Addr)) (fp : List Addr), PE (X.blk s H scope (compEnvC scope cl C X.env) fp) z (tK X P (fun _ _ _ _ => False) (kd T elt) elt) := fun s H C cl fp => (snd_E elt (X.blk s H scope (compEnvC scope cl C X.env) fp) _ _ (g.toGd.blk s H scope _ fp) h8).pe
    have hy := loc_of (N := X.N) hl
    refine PS.imp (ps_setLc (pos := p) (spos := pos) (py := py) g.calm g.nd hi hy (sw_true g.kind hy hp ha) hI (blkOk_by h1) hG hT hE (plain_fold h3)) ?_
    exact tAsg_mono (c_lc h2 h6 hif)
  | [], h => simp [okE] at h
  | _ :: _ :: _, h => simp [okE] at h
theorem okE_lc {N : List Str} {sc : Scope} {z : Expr} {cs : List Comprehension} {scope : Scope} {p : Pos} (h : okE T n N sc e (.ListComp z cs scope p) = true) : ∃ own tg it tt elt, e = .lc own tg it tt elt := by
  cases e <;> first | exact ⟨_, _, _, _, _, rfl⟩ | (simp [okE] at h; done)
/-- a store as the look lets it pass -/
theorem s_asg {i : Nat} {nm : Str} (g : Gs X T P n W) (hi : X.N[i]? = some nm) (hs : stoB X.env.scope nm = true) (hl : lcSwap X.env.scope nm py y = true) (h : okE T n X.N X.env.scope e y = true) : PS X (.Assign [.Name nm py] y pos) (tAsg (tK X P W (kd T e) e) (gName i)) := by
  have he := (snd_E e X W y g.toGd h).pe
  cases y with
  | ListComp z cs scope p =>
    unfold lcSwap at hl
    rw [Bool.or_eq_true] at hl
    rcases hl with hl | hl
    · simp only [Bool.and_eq_true, Bool.not_eq_true'] at hl
      obtain ⟨own, tg, it, tt, elt, rfl⟩ := okE_lc h
      exact s_lcStore g hi hl.1.1 hl.1.2 hl.2 h
    · exact s_storeC g hi (of_decide_eq_true hl) he
  | SetComp _ _ _ _ => simp [lcSwap] at hl
  | DictComp _ _ _ _ _ => simp [lcSwap] at hl
  | _ => exact s_store g hi hs rfl he
theorem s_tupA {is : List Nat} {t : Expr} (g : Gs X T P n W) (ht : okGS X.N X.env.scope (.tp is) t = true) (hl : isLc y = false) (hu : isTup y = false) (hk : kd T e ≠ 1) (he : PE X y (tK X P W (kd T e) e)) : PS X (.Assign [t] y pos) (tS X W fr (exS P (.tup is e))) := by
  have hG := s_gS (X := X) (tg := .tp is) g ht
  have hT : ∃ es k p, t = .Tuple es k p := by
    cases t <;> simp only [okGS] at ht <;> first | exact ⟨_, _, _, rfl⟩ | (cases ht; done)
  obtain ⟨es, k, p, rfl⟩ := hT
  refine PS.imp (ps_asg (stillE hk he) hG (by show swapsWith y (some (.Tuple es k p)) pos.line X.env = pure false; exact swaps_plain hl) ?_ rfl) fun D σ H ⟨He, Ge, G, ρ, s, h⟩ => ?_
  · cases y <;> first | rfl | (simp [isTup] at hu)
  · simp only [exS] at h
    refine bndS s h fun d v H1 G1 x1 r1 s1 q1 => ?_
    cases q : setT (.tp is) d ρ with
    | ok ρ1 => rw [q] at q1; exact s1.g_set r1 q fun σ' s' => q1 σ' H1 G1 s'
    | exc c z => cases d <;> simp only [setT] at q <;> first | (cases q; done) | (split at q <;> cases q)
    | bad => rw [q] at q1; exact q1.elim
theorem few_one {cpos : Pos} (hp : plainE y = true) : ((backTo cpos (starEach (y :: []) X.env)).all (fun x => !x.1) && (backToKw cpos (keywordEach [] X.env)).all (fun x => x.1.isSome)
      && decide ((y :: ([] : List Expr)).length + ([] : List Keyword).length + (if ([] : List Keyword).isEmpty then 0 else 1) < 30)) = true := by
  rw [star_cons hp]
  rfl
theorem s_app {i : Nat} {nm : Str} {np apos cpos : Pos} (g : Gs X T P n W) (hi : X.N[i]? = some nm) (hv : visB X.env.scope nm = true) (ho : okN nm = true) (hl : (apos.endLine == cpos.line) = true) (hp : plainE y = true) (hk : kd T e ≠ 1)
    (he : PE X y (tK X P W (kd T e) e)) : PS X (.Expr (.Call (.Attribute (.Name nm np) "append" apos) [y] [] cpos) pos) (tS X W fr (exS P (.app i e))) := by
  refine PS.imp (ps_expr (pe_bm PySem.F.plainAttrs_list PySem.F.slot_list_append PySem.F.type_list_append mt_append (pe_var hi (vis_of hv) (okN_d ho) (okN_c ho)) (pa_cons (stillE hk he) pa_nil (star_cons hp)) rfl (few_one hp) hl (star_cons hp) rfl) rfl) fun D σ H ⟨He, Ge, G, ρ, s, h⟩ => ?_
  simp only [exS] at h
  cases hd : getS ρ i with
  | ow ds =>
    rw [hd] at h
    have e0 := getS_some hd nofun
    obtain ⟨o, h1, a, vs, rfl, h2, ga, rr⟩ := s.er.at_ i _ e0
    refine ⟨_, h1, .inl ⟨rfl, vs, SqL.of h2⟩, ?_⟩
    refine bndS s h fun d v H1 G1 x1 r1 s1 q1 => ?_
    split at q1
    · rename_i hz
      obtain ⟨o', h1', a', vs', ea, h2', ga', rr'⟩ := s1.er.at_ i _ e0
      rw [h1] at h1'
      cases h1'
      cases ea
      refine ⟨a, vs', v, rfl, rfl, h2', lt_line (by rw [rr'.length]; exact hz), ?_⟩
      exact q1 σ _ G1 (s1.chg e0 h1 (rr'.append (.cons r1 .nil)))
    · exact q1.elim
  | un => rw [hd] at h; exact h.elim
  | fz _ => rw [hd] at h; exact h.elim
  | ln _ => rw [hd] at h; exact h.elim
  | ex _ _ _ _ => rw [hd] at h; exact h.elim
theorem s_rev {i : Nat} {nm : Str} {np apos cpos : Pos} (g : Gs X T P n W) (hi : X.N[i]? = some nm) (hv : visB X.env.scope nm = true) (ho : okN nm = true) (hl : (apos.endLine == cpos.line) = true) :
    PS X (.Expr (.Call (.Attribute (.Name nm np) "reverse" apos) [] [] cpos) pos) (tS X W fr (exS P (.rev i))) := by
  refine PS.imp (ps_expr (pe_bm0 PySem.F.plainAttrs_list PySem.F.slot_list_reverse PySem.F.type_list_reverse mt_reverse (pe_var hi (vis_of hv) (okN_d ho) (okN_c ho)) rfl hl) rfl) fun D σ H ⟨He, Ge, G, ρ, s, h⟩ => ?_
  simp only [exS] at h
  cases hd : getS ρ i with
  | ow ds =>
    rw [hd] at h
    have e0 := getS_some hd nofun
    obtain ⟨o, h1, a, vs, rfl, h2, ga, rr⟩ := s.er.at_ i _ e0
    exact ⟨_, h1, .inl ⟨rfl, vs, SqL.of h2⟩, a, vs, rfl, rfl, h2, h σ _ G (s.chg e0 h1 rr.reverse)⟩
  | un => rw [hd] at h; exact h.elim
  | fz _ => rw [hd] at h; exact h.elim
  | ln _ => rw [hd] at h; exact h.elim
  | ex _ _ _ _ => rw [hd] at h; exact h.elim
theorem s_ext {i : Nat} {nm : Str} {np apos cpos : Pos} (g : Gs X T P n W) (hi : X.N[i]? = some nm) (hv : visB X.env.scope nm = true) (ho : okN nm = true) (hl : (apos.endLine == cpos.line) = true) (hp : plainE y = true)
    (he : PE X y (tK X P W 2 e)) : PS X (.Expr (.Call (.Attribute (.Name nm np) "extend" apos) [y] [] cpos) pos) (tS X W fr (exS P (.ext i e))) := by
  refine PS.imp (ps_expr (pe_bm PySem.F.plainAttrs_list PySem.F.slot_list_extend PySem.F.type_list_extend mt_extend (pe_var hi (vis_of hv) (okN_d ho) (okN_c ho)) (pa_cons he pa_nil (star_cons hp)) rfl (few_one hp) hl (star_cons hp) rfl) rfl) fun D σ H ⟨He, Ge, G, ρ, s, h⟩ => ?_
  simp only [exS] at h
  cases hd : getS ρ i with
  | ow ds =>
    rw [hd] at h
    have e0 := getS_some hd nofun
    obtain ⟨o, h1, a, vs, rfl, h2, ga, rr⟩ := s.er.at_ i _ e0
    refine ⟨_, h1, .inl ⟨rfl, vs, SqL.of h2⟩, ?_⟩
    refine bndS s h fun d v H1 G1 x1 r1 s1 q1 => ?_
    obtain ⟨b, ws, es, rfl, rfl, nb, gb, hb, rb⟩ := r1
    simp only at q1
    split at q1
    · rename_i hz
      obtain ⟨o', h1', a', vs', ea, h2', ga', rr'⟩ := s1.er.at_ i _ e0
      rw [h1] at h1'
      cases h1'
      cases ea
      refine ⟨a, b, vs', ws, rfl, rfl, h2', hb, by rw [rr'.length, rb.length]; exact le_line (Nat.le_of_lt hz), ?_⟩
      exact q1 σ _ G1 (s1.chg e0 h1 (rr'.append rb))
    · exact q1.elim
  | un => rw [hd] at h; exact h.elim
  | fz _ => rw [hd] at h; exact h.elim
  | ln _ => rw [hd] at h; exact h.elim
  | ex _ _ _ _ => rw [hd] at h; exact h.elim
/-- a loop over what is walked -/
theorem s_for {tmp : List Nat} {tg : Tg} {it : NW.It} {body : Ss} {t : Expr} {b : List Stmt} (g : Gs X T P n W) (hno : isOwn it = false) (ht : okGS X.N X.env.scope tg t = true) (hp : plainE x = true) (hi : PI X t x (tI X P W it)) (hb : PSs X b (tS X W fr (exSs P body))) :
    PS X (.For t x b [] pos) (tS X W fr (exS P (.for_ tmp tg it body))) := by
  refine PS.imp (ps_for g.pass g.calm hi (s_gS g ht) hb (plain_fold hp)) fun D σ H ⟨He, Ge, G, ρ, s, h⟩ => ?_
  simp only [exS] at h
  refine ⟨He, G, ρ, s.er, ?_⟩
  rw [bI_no hno]
  cases qi : evI P it ρ with
  | exc c z => rw [qi] at h; exact fun cls dx H' G' x r => h cls dx σ H' G' (s.ext.trans x) r
  | bad => rw [qi] at h; exact h
  | ok xs =>
    rw [qi] at h
    simp only [out_ok] at h
    intro J H1 G1 x1 Y
    have s1 := s.on x1
    refine ⟨fun i m σ' H' => m = xs.length - i ∧ i ≤ xs.length ∧ ∃ G' ρ', SR X.K He G1 ρ' σ' H' G' ∧ EndS X W fr He Ge D (forL tmp (fun x ρ => Out.of (setT tg x ρ) (exSs P body)) (xs.drop i) ρ'),
      ⟨xs.length, by simp, Nat.zero_le _, G1, ρ, s1.base, h⟩, ?_⟩
    rintro i m σ2 H2 ⟨rfl, hle, G2, ρ2, s2, h2⟩
    have s2' := s2.un tmp
    by_cases hlt : i < xs.length
    · refine .inr ⟨Y.go i H2 G2 hlt s2.er.bas s2.ext.stl s2.er.sub, fun σ' H' => ∃ m', m' < xs.length - i ∧ (m' = xs.length - (i + 1) ∧ i + 1 ≤ xs.length ∧ ∃ G' ρ', SR X.K He G1 ρ' σ' H' G' ∧ EndS X W fr He Ge D (forL tmp (fun x ρ => Out.of (setT tg x ρ) (exSs P body)) (xs.drop (i + 1)) ρ')),
        fun σ' H' h => h, fun v H3 y => ?_⟩
      obtain ⟨d, G3, hd, x3, rd⟩ := Y.yld i H2 G2 v H3 hlt s2.er.bas s2.ext.stl s2.er.sub y
      have edrop : xs.drop i = d :: xs.drop (i + 1) := by
        rw [List.drop_eq_getElem_cons hlt]
        have := (List.getElem?_eq_some_iff.mp hd).2
        rw [this]
      rw [edrop] at h2
      simp only [forL] at h2
      have s3 := s2'.on x3
      have xE : Ext He Ge H1 G1 := s1.ext
      cases qs : setT tg d (unS tmp ρ2) with
      | exc c z =>
        cases tg with
        | nm i => simp only [setT] at qs; cases qs
        | tp is => cases d <;> simp only [setT] at qs <;> first | (cases qs; done) | (split at qs <;> cases qs)
      | bad => rw [qs] at h2; exact h2.elim
      | ok ρ3 =>
        rw [qs] at h2
        simp only [out_ok] at h2
        refine s3.g_set rd qs fun σ4 s4 => ?_
        refine ⟨He, G1, G3, ρ3, s4, ?_⟩
        cases qo : exSs P body ρ3 with
        | nx ρ5 =>
          rw [qo] at h2
          exact fun σ6 H6 G6 s6 => ⟨xs.length - (i + 1), by omega, rfl, hlt, G6, ρ5, s6, h2⟩
        | ct ρ5 =>
          rw [qo] at h2
          exact fun σ6 H6 G6 s6 => ⟨xs.length - (i + 1), by omega, rfl, hlt, G6, ρ5, s6, h2⟩
        | ret d => rw [qo] at h2; exact fun v H G x r => h2 v H G (xE.rebase x) r
        | exc c z => rw [qo] at h2; exact fun cls dx σ H G x r => h2 cls dx σ H G (xE.rebase x) r
        | bad => rw [qo] at h2; exact h2
    · have e : i = xs.length := by omega
      subst e
      rw [List.drop_length] at h2
      simp only [forL] at h2
      exact .inl ⟨Y.stop H2 G2 s2.er.bas s2.ext.stl s2.er.sub, h2 σ2 H2 G2 (s2'.rebase s1.ext)⟩
theorem s_whil {fuel : En → Nat} {tmp : List Nat} {c : E} {body : Ss} {b : List Stmt} (g : Gs X T P n W) (hc : PT X x (tT X P W c)) (hb : PSs X b (tS X W fr (exSs P body))) :
    PS X (.While x b [] pos) (tS X W fr (exS P (.whil fuel tmp c body))) := by
  refine PS.imp (ps_while g.pass hc hb) fun D σ H ⟨He, Ge, G, ρ, s, h⟩ => ?_
  simp only [exS] at h
  refine ⟨fun m σ' H' => ∃ G' ρ', SR X.K He Ge ρ' σ' H' G' ∧ EndS X W fr He Ge D (whilL tmp (fun ρ => ev P c ρ >>= fun d => truD d) (exSs P body) m ρ'), ⟨fuel ρ, G, ρ, s, h⟩, ?_⟩
  rintro m σ2 H2 ⟨G2, ρ2, s2, h2⟩
  cases m with
  | zero => exact h2.elim
  | succ m =>
    simp only [whilL] at h2
    refine bndST (s2.un tmp) h2 fun r H1 G1 x1 s1 q1 => ?_
    cases r with
    | true =>
      rw [if_pos rfl]
      simp only at q1
      refine ⟨fun σ' H' => ∃ m', m' < m + 1 ∧ ∃ G' ρ', SR X.K He Ge ρ' σ' H' G' ∧ EndS X W fr He Ge D (whilL tmp (fun ρ => ev P c ρ >>= fun d => truD d) (exSs P body) m' ρ'), fun σ' H' h => h, He, Ge, G1, unS tmp ρ2, s1, ?_⟩
      cases qo : exSs P body (unS tmp ρ2) with
      | nx ρ5 => rw [qo] at q1; exact fun σ6 H6 G6 s6 => ⟨m, Nat.lt_succ_self m, G6, ρ5, s6, q1⟩
      | ct ρ5 => rw [qo] at q1; exact fun σ6 H6 G6 s6 => ⟨m, Nat.lt_succ_self m, G6, ρ5, s6, q1⟩
      | ret d => rw [qo] at q1; exact q1
      | exc c z => rw [qo] at q1; exact q1
      | bad => rw [qo] at q1; exact q1
    | false =>
      rw [if_neg Bool.false_ne_true]
      exact q1 _ H1 G1 s1
/-- a constant as it is written -/
def cstV : E → V
  | .bl b => .bl b
  | .str x => .str x
  | _ => .non
def cstD : E → Dat
  | .bl b => .bool b
  | .str x => .str x
  | _ => .none
theorem s_cst {h : E} {w : Expr} (hc : cstOk h w = true) : PE X w (tC (cstV h)) ∧ isLc w = false ∧ (∀ ρ, ev P h ρ = .ok (cstD h)) ∧ ∀ G, Rep X.K G (cstV h) (cstD h) := by
  cases h <;> cases w <;> simp only [cstOk] at hc <;> try (cases hc; done)
  all_goals rename_i c k p
  all_goals cases c <;> simp only at hc <;> try (cases hc; done)
  · exact ⟨pe_non, rfl, fun ρ => by simp only [ev]; rfl, fun _ => .non⟩
  · rename_i b b'
    have e := eq_of_beq hc
    subst e
    exact ⟨pe_bl, rfl, fun ρ => by simp only [ev]; rfl, fun _ => .bl _⟩
  · rename_i b b'
    have e := of_decide_eq_true hc
    subst e
    exact ⟨pe_str, rfl, fun ρ => by simp only [ev]; rfl, fun _ => .str _⟩
theorem s_rais {c m : Str} {k : Nat} {np p2 cp : Pos} (g : Gs X T P n W) (hg : glB X.env.scope c = true) (ho : okN c = true) (hx : T.exs.contains c = true) :
    PS X (.Raise (some (.Call (.Name c np) [.Constant (.str m) k p2] [] cp)) none pos) (tS X W fr (exS P (.rais c))) := by
  obtain ⟨C, h1, h2⟩ := g.exs c (List.contains_iff_mem.mp hx)
  have hg' : X.env.scope.names.lookup c = some .globalImplicit := of_decide_eq_true hg
  have tk := g.tk
  cases hcl : T.cl with
  | false =>
    rw [hcl] at tk
    refine PS.imp (ps_raise g.calm tk (pmk_own PySem.F.excBase_ValueError h2.exc h1 h2.keep (raises_own h2.sub h2.ty) hg' (okN_d ho))) fun D σ H ⟨He, Ge, G, ρ, s, q⟩ => ?_
    simp only [exS] at q
    exact q (.ref C) none σ H G s.ext ⟨⟨C, h1, rfl⟩, rfl⟩
  | true =>
    rw [hcl] at tk
    refine PS.imp (L2N.ps_raise g.calm tk (L2N.pmk_own PySem.F.excBase_ValueError h2.exc h1 h2.keep (raises_own h2.sub h2.ty) hg' (okN_d ho))) fun D σ H ⟨He, Ge, G, ρ, s, q⟩ => ?_
    simp only [exS] at q
    exact q (.ref C) none σ H G s.ext ⟨⟨C, h1, rfl⟩, rfl⟩
theorem tk_low (g : Gs X T P n W) (h : T.cl = false) : Takes X W := by
  have tk := g.tk
  rw [h] at tk
  exact tk
theorem s_raisX {c : Str} {e : E} {np cp : Pos} (g : Gs X T P n W) (hg : glB X.env.scope c = true) (ho : okN c = true) (hx : T.exr.contains c = true) (hcl : T.cl = false) (hn : 2 ≤ n) (hp : plainE y = true) (hk : kd T e ≠ 1) (he : PE X y (tK X P W (kd T e) e)) :
    PS X (.Raise (some (.Call (.Name c np) [y] [] cp)) none pos) (tS X W fr (exS P (.raisX c e))) := by
  obtain ⟨C, h1, fI, fd, r1, r2, r3, r4, r5, r6, r7, r8⟩ := g.exr c (List.contains_iff_mem.mp hx)
  have hg' : X.env.scope.names.lookup c = some .globalImplicit := of_decide_eq_true hg
  refine PS.imp (ps_raise g.calm (tk_low g hcl) (pmk_oex r1 r3 r4 r5 (g.room.mono hn) r7 .nil passes0 hg' h1 (pa_cons (stillE hk he) pa_nil (star_cons hp)) (okN_d ho) (star_cons hp) rfl)) fun D σ H ⟨He, Ge, G, ρ, s, q⟩ => ?_
  simp only [exS] at q
  refine bndS s q fun d v H1 G1 x1 rv s1 q1 => ?_
  refine mk_row (H := H1) (v := v) (Q := fun cls d H' => W cls d σ H') r1 r2 fun a dx na nd hda => ?_
  obtain ⟨m1, m2⟩ := made_row (mg := X.mg) (c := c) s1.er.sub na nd hda h1 rv
  exact q1 _ _ σ _ _ (s1.ext.trans m1) m2
theorem Gs.tr (g : Gs X T P n W) {W' : WX} {pn : List (Addr × Obj)} {xe : Value → Shared → Prop} (tk : TkB T.cl (X.tr pn xe) W') (ps : PassesOwn (model X.prog X.w) X.A X.env xe) : Gs (X.tr pn xe) T P n W' :=
  ⟨⟨g.calm, g.nd, g.room, tk, g.fns, g.cons, g.blt, g.exs, g.exm, g.iss, g.exr⟩, ps, g.fnT, g.kind, g.stk, g.frm⟩
theorem Gs.tr0 (g : Gs X T P n W) (hcl : T.cl = false) {W' : WX} {pn : List (Addr × Obj)} {xe : Value → Shared → Prop} (tk : Takes (X.tr pn xe) W') (ps : PassesOwn (model X.prog X.w) X.A X.env xe) : Gs (X.tr pn xe) T P n W' :=
  g.tr (by rw [hcl]; exact tk) ps
/-- what a try's body gives, its value then kept by f -/
def tTry (X : Cx) (P : Pg) (W : WX) (k : Nat) (e : E) (f : V → Hp → L2.St → Hp → Ends → Prop) : TS := fun D σ H => tK X P W k e σ H fun v H1 => f v H1 σ H1 D
theorem try_end {i : Option Nat} {c : Str} {j : Nat} {h : E} {D : Ends} {σ : L2.St} {H He Ge G : Hp} {ρ : En} {k : Nat} {C : Addr} {v : V} {dv : Dat} {Q : VK} (g : Gs X T P n W) (hC : X.mg c = some (.ref C)) (hv : ∀ ρ, ev P h ρ = .ok dv) (rv : ∀ G, Rep X.K G v dv)
    (s : SR X.K He Ge ρ σ H G) (q : EndS X W fr He Ge D (tryO (fun c' => P.X c' c) i j ρ (ev P h ρ) (ev P e ρ)))
    (ok : ∀ d x H1 G1, Ext H G H1 G1 → RK X.K k H H1 G1 x d → SR X.K He Ge ρ σ H1 G1 → EndS X W fr He Ge D (keepO i ρ d) → Q x H1) :
    tK X P (wOnly X.K (.ref C) (fun _ _ _ D σ H => D.nx (σ.set j (some v)) H) W D) k e σ H Q := by
  refine ⟨He, G, ρ, s.er, ?_⟩
  cases qe : ev P e ρ with
  | ok d =>
    rw [qe] at q
    exact fun x H1 G1 x1 r1 => ok d x H1 G1 x1 r1 (s.on x1) q
  | exc c' z =>
    rw [qe, hv ρ] at q
    simp only [tryO] at q
    cases qm : P.X c' c with
    | none => rw [qm] at q; exact q.elim
    | some b =>
      rw [qm] at q
      obtain ⟨C1, C2, m1, m2, m3⟩ := g.exm c' c b qm
      rw [hC] at m2
      cases m2
      intro cls dx H1 G1 x1 r1
      obtain ⟨⟨C3, m4, rfl⟩, r2⟩ := r1
      rw [m1] at m4
      cases m4
      refine ⟨b, m3, fun hb a _ => ?_, fun hb => ?_⟩
      · subst hb
        exact q _ H1 G1 ((s.on x1).set (rv G1) j)
      · subst hb
        exact q _ dx σ H1 G1 (s.ext.trans x1) ⟨⟨C1, m1, rfl⟩, r2⟩
  | bad => rw [qe] at q; exact q.elim
theorem s_tryE {c z : Str} {i : Option Nat} {j : Nat} {h : E} {w : Expr} {body : List Stmt} {np zp ap hp tp : Pos} {k : Nat} {Qk : V → L2.St → Hp → Ends → Prop} (g : Gs X T P n W) (hcl : T.cl = false) (hg : glB X.env.scope c = true) (ho : okN c = true) (hj : X.N[j]? = some z) (hs : stoB X.env.scope z = true) (hw : cstOk h w = true) (hm : ∃ C, X.mg c = some (.ref C))
    (hb : ∀ (W' : WX) (pn : List (Addr × Obj)) (xe : Value → Shared → Prop), Gs (X.tr pn xe) T P n W' → PSs (X.tr pn xe) body (fun D σ H => tK X P W' k e σ H fun v H1 => Qk v σ H1 D))
    (hq : ∀ (D : Ends) (σ : L2.St) (He Ge H1 G1 : Hp) (ρ : En) (H : Hp) (x : V) (d : Dat), RK X.K k H H1 G1 x d → SR X.K He Ge ρ σ H1 G1 → EndS X W fr He Ge D (keepO i ρ d) → Qk x σ H1 D) :
    PS X (.Try body [.ExceptHandler (some (.Name c np)) none [.Assign [.Name z zp] w ap] hp] [] [] tp) (tS X W fr (exS P (.tryE i e c j h))) := by
  obtain ⟨C, hC⟩ := hm
  obtain ⟨p1, p2, p3, p4⟩ := s_cst (P := P) (X := X) hw
  have hg' : X.env.scope.names.lookup c = some .globalImplicit := of_decide_eq_true hg
  refine PS.imp (ps_try_only (ts := fun _ _ _ D σ H => D.nx (σ.set j (some (cstV h))) H) g.stk g.frm ⟨hg', okN_d ho, .inl hC⟩ (tk_low g hcl) (fun W' pn xe tk ps => hb W' pn xe (g.tr0 hcl tk ps)) fun a oe cls d pn _ _ => ?_) fun D σ H ⟨He, Ge, G, ρ, s, q⟩ => ?_
  · have z := s_cst (P := P) (X := X.suite a ((a, oe) :: pn)) hw
    exact PSs.imp (pss_one (ps_set (X := X.suite a ((a, oe) :: pn)) g.nd hj (loc_sto hs) z.1 (swaps_plain z.2.1) (.inl (g.fnT _)))) fun D σ H q => q
  · simp only [exS] at q
    exact try_end g hC p3 p4 s q fun d x H1 G1 x1 r1 s1 q1 => hq D σ He Ge H1 G1 ρ H x d r1 s1 q1
/-- a slot's thing is an exception -/
theorem SR.setX (s : SR X.K He Ge ρ σ H G) (i : Nat) (a : Addr) (c : Str) : SR X.K He Ge (ρ.set i (.ex a none c none)) (σ.set i (some (.ref a))) H G := by
  have key : ∀ (j : Nat) (ds : List Dat), (ρ.set i (.ex a none c none))[j]? = some (.ow ds) → j ≠ i ∧ ρ[j]? = some (.ow ds) := fun j ds e => by
    by_cases h : i = j
    · subst h
      rw [List.getElem?_set] at e
      simp at e
    · rw [List.getElem?_set_ne h] at e
      exact ⟨fun z => h z.symm, e⟩
  refine ⟨s.ext, ⟨s.er.bas, s.er.sub, by simp [s.er.len], fun j z e => ?_⟩, fun j ds b e1 e2 => ?_, fun j k ds es b hjk e1 e2 e3 e4 => ?_⟩
  · by_cases h : i = j
    · subst h
      have hi : i < ρ.length := by
        by_cases hi : i < ρ.length
        · exact hi
        · rw [List.getElem?_eq_none (by rw [List.length_set]; omega)] at e; cases e
      rw [List.getElem?_set_self hi] at e
      cases e
      exact ⟨_, List.getElem?_set_self (by rw [← s.er.len]; exact hi), rfl, rfl⟩
    · rw [List.getElem?_set_ne h] at e
      obtain ⟨o, h1, h2⟩ := s.er.at_ j z e
      exact ⟨o, by rw [List.getElem?_set_ne h]; exact h1, h2⟩
  · obtain ⟨n1, e1⟩ := key j ds e1
    rw [List.getElem?_set_ne (fun z => n1 z.symm)] at e2
    exact s.own j ds b e1 e2
  · obtain ⟨n1, e1⟩ := key j ds e1
    obtain ⟨n2, e2⟩ := key k es e2
    rw [List.getElem?_set_ne (fun z => n1 z.symm)] at e3
    rw [List.getElem?_set_ne (fun z => n2 z.symm)] at e4
    exact s.sep j k ds es b hjk e1 e2 e3 e4
/-- a slot is emptied -/
theorem SR.unset (s : SR X.K He Ge ρ σ H G) (i : Nat) {o : Option V} : SR X.K He Ge (ρ.set i .un) (σ.set i o) H G := by
  have key : ∀ (j : Nat) (ds : List Dat), (ρ.set i .un)[j]? = some (.ow ds) → j ≠ i ∧ ρ[j]? = some (.ow ds) := fun j ds e => by
    by_cases h : i = j
    · subst h
      rw [List.getElem?_set] at e
      simp at e
    · rw [List.getElem?_set_ne h] at e
      exact ⟨fun z => h z.symm, e⟩
  refine ⟨s.ext, ⟨s.er.bas, s.er.sub, by simp [s.er.len], fun j z e => ?_⟩, fun j ds b e1 e2 => ?_, fun j k ds es b hjk e1 e2 e3 e4 => ?_⟩
  · by_cases h : i = j
    · subst h
      have hi : i < ρ.length := by
        by_cases hi : i < ρ.length
        · exact hi
        · rw [List.getElem?_eq_none (by rw [List.length_set]; omega)] at e; cases e
      rw [List.getElem?_set_self hi] at e
      cases e
      exact ⟨_, List.getElem?_set_self (by rw [← s.er.len]; exact hi), trivial⟩
    · rw [List.getElem?_set_ne h] at e
      obtain ⟨o, h1, h2⟩ := s.er.at_ j z e
      exact ⟨o, by rw [List.getElem?_set_ne h]; exact h1, h2⟩
  · obtain ⟨n1, e1⟩ := key j ds e1
    rw [List.getElem?_set_ne (fun z => n1 z.symm)] at e2
    exact s.own j ds b e1 e2
  · obtain ⟨n1, e1⟩ := key j ds e1
    obtain ⟨n2, e2⟩ := key k es e2
    rw [List.getElem?_set_ne (fun z => n1 z.symm)] at e3
    rw [List.getElem?_set_ne (fun z => n2 z.symm)] at e4
    exact s.sep j k ds es b hjk e1 e2 e3 e4
/-- the questions about a caught exception, as terms -/
def isEs (a : Addr) (dx : Option Addr) (c : Str) (i : Nat) : List Str → Es
  | [] => .nil
  | C :: r => .cons (.iss a dx c i C) (isEs a dx c i r)
theorem evs_is {a : Addr} {dx : Option Addr} {c : Str} {i : Nat} {ρ : En} {x : Option Dat} (h : getS ρ i = .ex a dx c x) : ∀ {l : List Str} {bs : List Bool}, isAll (P.I c) l = some bs → evs P (isEs a dx c i l) ρ = .ok (bs.map .bool)
  | [], bs, e => by
    simp only [isAll] at e
    cases e
    simp only [isEs, evs, List.map_nil]
  | C :: r, bs, e => by
    simp only [isAll] at e
    cases q1 : P.I c C with
    | none => rw [q1] at e; cases e
    | some b =>
      cases q2 : isAll (P.I c) r with
      | none => rw [q1, q2] at e; cases e
      | some bs' =>
        rw [q1, q2] at e
        cases e
        simp only [isEs, evs, ev, h, q1, evs_is h q2, ok_bind, List.map_cons]
        simp
/-- isinstance(e, c), e the exception that the suite holds, with or without a dict -/
def rIsX (K : PySem.W.Frag) (D a : Addr) (dx : Option Addr) : List V → Hp → VK → Prop := fun xs H Q => ∃ (c : V) (cv : Value) (b : Bool), xs = [.ref a, c] ∧ (∀ u, RelV c u → u = cv) ∧ PySem.W.kitOne K (.ref D) cv = some b ∧
  (dx = none ∨ ∃ dd fs, dx = some dd ∧ H dd = some (.xd fs)) ∧ Q (.bl b) H
theorem call_isX {X : Cx} {a D : Addr} {dx : Option Addr} {oe : Obj} {pn : List (Addr × Obj)} (C : ExcC X.K D) (hz : Zc (.ref D) dx oe) (hf : ∃ vs, oe.data = .fields vs) : CallR (X.suite a ((a, oe) :: pn)) (.builtin "isinstance") (rIsX X.K D a dx) := by
  intro pins s σ H xs us Q I r h
  obtain ⟨c, cv, b, rfl, hcv, e, hd, q⟩ := h
  cases r with
  | cons rx rr =>
    cases rr with
    | cons rt rr =>
      cases rr
      cases rx
      have ec := hcv _ rt
      subst ec
      obtain ⟨hget, _⟩ := I.pin (a, oe) (List.mem_append.mpr (.inl List.mem_cons_self))
      obtain ⟨vs, hv⟩ := hf
      have hcl : (PySem.W.clsIn X.K D).isSome = true := by
        have hh := C.hd
        unfold PySem.W.hasDictIn at hh
        cases qc : PySem.W.clsIn X.K D with
        | none => rw [qc] at hh; cases hh
        | some _ => rfl
      have J : ∃ od, PySem.W.InstAt s.heap a oe D od := by
        obtain ⟨z1, z2⟩ := hz
        rcases hd with rfl | ⟨dd, fs, rfl, hdd⟩
        · exact ⟨none, hget, z1, by unfold PySem.W.notCls; rw [hv] <;> rfl, by rw [z2]; trivial⟩
        · have hx : ObjOk X.prog X.w H s.heap dd (.xd fs) := I.hok dd _ hdd
          obtain ⟨mA, hns, hr⟩ := hx
          obtain ⟨od, ho, hl⟩ := lookIn_ns hns
          exact ⟨some od, hget, z1, by unfold PySem.W.notCls; rw [hv] <;> rfl, by rw [z2]; exact ho⟩
      obtain ⟨od, J⟩ := J
      exact PySem.W.kia_one (PySem.W.kitx_exc hcl C.hg C.hk C.hs C.ha C.hn C.ht C.hm) I.kIn J e (fun z => nomatch z) fun tk => ⟨.bl b, H, I.kept (t' := tk) fun _ _ z => z, rfl, q⟩
/-- isinstance(x, C) within the clause that holds the exception -/
theorem s_iss {a : Addr} {dx : Option Addr} {oe : Obj} {pn : List (Addr × Obj)} {c C x : Str} {i : Nat} {D : Addr} {np xp cp cpos : Pos} (g : Gs X T P n W) (hD : X.mg c = some (.ref D)) (hz : Zc (.ref D) dx oe) (hf : ∃ vs, oe.data = .fields vs)
    (hi : X.N[i]? = some x) (hv : visB X.env.scope x = true) (ho : okN x = true) (h1 : glB X.env.scope "isinstance" = true) (h2 : glB X.env.scope C = true) (h3 : okN C = true) :
    PE (X.suite a ((a, oe) :: pn)) (.Call (.Name "isinstance" np) [.Name x xp, .Name C cp] [] cpos) (tK (X.suite a ((a, oe) :: pn)) P (fun _ _ _ _ => False) 0 (.iss a dx c i C)) := by
  have g1 : X.env.scope.names.lookup ("isinstance" : Str) = some .globalImplicit := of_decide_eq_true h1
  have g2 : X.env.scope.names.lookup C = some .globalImplicit := of_decide_eq_true h2
  cases qI : P.I c C with
  | none =>
    refine ⟨fun pins s σ H Q I h => ?_⟩
    obtain ⟨B, G, ρ, er, q⟩ := h
    exfalso
    simp only [ev] at q
    cases e : getS ρ i <;> rw [e] at q <;> try (exact q)
    simp only at q
    split at q
    · rw [qI] at q; exact q
    · exact q
  | some b =>
    obtain ⟨D', m1, ec, _, hk⟩ := g.iss c C b qI
    rw [hD] at m1
    cases m1
    have fin : ∀ (cv : V) (cu : Value), RelV cv cu → (∀ u, RelV cv u → u = cu) → PySem.W.kitOne X.K (.ref D) cu = some b → PE (X.suite a ((a, oe) :: pn)) (.Name C cp) (tC cv) →
        PE (X.suite a ((a, oe) :: pn)) (.Call (.Name "isinstance" np) [.Name x xp, .Name C cp] [] cpos) (tK (X.suite a ((a, oe) :: pn)) P (fun _ _ _ _ => False) 0 (.iss a dx c i C)) := fun cv cu r1 r2 r3 hc => by
      refine PE.imp (pe_callB (X := X.suite a ((a, oe) :: pn)) (call_isX ec hz hf) g1 (g.blt _ (by decide +kernel)) PyProof.Rows.boot_isinstance (pa_cons (pe_var hi (vis_of hv) (okN_d ho) (okN_c ho)) (pa_cons hc pa_nil)) (by decide) (by decide) rfl rfl) fun σ H Q ⟨B, G, ρ, er, q⟩ => ?_
      simp only [ev] at q
      cases e : getS ρ i <;> rw [e] at q <;> try (exact q.elim)
      rename_i a' dx' c' x'
      simp only at q
      split at q
      · rename_i hh
        obtain ⟨rfl, rfl, rfl⟩ := hh
        rw [qI] at q
        obtain ⟨o, h1, h2, h3⟩ := er.at_ i _ (getS_some e nofun)
        subst h2
        refine ⟨_, h1, cv, cu, b, rfl, r2, r3, ?_, q (.bl b) H G (Ext.refl er.sub) (.bl b)⟩
        cases x' with
        | none => exact .inl h3
        | some d' =>
          obtain ⟨b', v', e1, e2, _⟩ := h3
          exact .inr ⟨b', _, e1, e2⟩
      · exact q.elim
    rcases hk with ⟨C', m2, m3⟩ | ⟨rfl, m2, m3⟩
    · exact fin (.ref C') (.ref C') rfl (fun u r => by cases r; rfl) m3 (pe_glob g2 m2 rfl (okN_d h3))
    · have hb : bootBuiltins ("ValueError" : Str) = some (.type "ValueError") := by decide +kernel
      exact fin (.ty "ValueError") (.type "ValueError") rfl (fun u r => by cases r; rfl) m3 (pe_bltn g2 m2 hb rfl (okN_n h3) (okN_d h3))
theorem s_isEs {a : Addr} {dx : Option Addr} {oe : Obj} {pn : List (Addr × Obj)} {c x : Str} {i : Nat} {D : Addr} (g : Gs X T P n W) (hD : X.mg c = some (.ref D)) (hz : Zc (.ref D) dx oe) (hf : ∃ vs, oe.data = .fields vs)
    (hi : X.N[i]? = some x) (hv : visB X.env.scope x = true) (ho : okN x = true) (h1 : glB X.env.scope "isinstance" = true) : ∀ {xs : List Expr} {l : List Str}, isCs x xs = some l → (l.all fun C => glB X.env.scope C && okN C) = true →
      PA (X.suite a ((a, oe) :: pn)) xs (tA (X.suite a ((a, oe) :: pn)) P (fun _ _ _ _ => False) [] (isEs a dx c i l))
  | [], l, e, _ => by
    simp only [isCs] at e
    cases e
    exact PA.imp pa_nil fun σ H Q ⟨B, G, ρ, er, q⟩ => by
      simp only [isEs, evs] at q
      exact q [] H G (Ext.refl er.sub) .nil
  | e :: r, l, el, hl => by
    simp only [isCs] at el
    cases q1 : isC1 x e with
    | none => rw [q1] at el; cases el
    | some C =>
      cases q2 : isCs x r with
      | none => rw [q1, q2] at el; cases el
      | some Cs =>
        rw [q1, q2] at el
        cases el
        obtain ⟨np, xp, cp, pos, rfl⟩ := isC1_ok q1
        rw [List.all_cons, Bool.and_eq_true, Bool.and_eq_true] at hl
        have A := s_iss (a := a) (oe := oe) (pn := pn) (np := np) (xp := xp) (cp := cp) (cpos := pos) (P := P) g hD hz hf hi hv ho h1 hl.1.1 hl.1.2
        have R := s_isEs (a := a) (oe := oe) (pn := pn) g hD hz hf hi hv ho h1 q2 hl.2
        refine PA.imp (pa_cons A R rfl) fun σ H Q ⟨B, G, ρ, er, q⟩ => ?_
        simp only [isEs, evs] at q
        refine bndA er q fun d v H1 G1 x1 r1 er1 q1 => ?_
        refine ⟨B, G1, ρ, er1, ?_⟩
        cases e1 : evs P (isEs a dx c i Cs) ρ with
        | ok ds =>
          rw [e1] at q1
          intro vs H2 G2 x2 r2
          exact q1 (v :: vs) H2 G2 x2 (.cons (by
            have r3 : Rep X.K G2 v d := r1.mono x2.stl
            simpa using r3) r2)
        | exc c z => rw [e1] at q1; exact q1
        | bad => rw [e1] at q1; exact q1
/-- what the clause does, as terms -/
def isSs (a : Addr) (c : Str) (i j : Nat) (n1 n2 : List Str) : Ss := .cons (.set j (.tup (isEs a none c i n1))) (.cons (.set j (.bin .add (.var j) (.tup (isEs a none c i n2)))) .nil)
theorem is_run {a : Addr} {c : Str} {i j : Nat} {n1 n2 : List Str} {b1 b2 : List Bool} {ρ : En} (h1 : isAll (P.I c) n1 = some b1) (h2 : isAll (P.I c) n2 = some b2) (hi : i < ρ.length) (hj : j < ρ.length) (hij : i ≠ j) (hl : b1.length + b2.length ≤ 1000) :
    exSs P (isSs a c i j n1 n2) (ρ.set i (.ex a none c none)) = .nx (((ρ.set i (.ex a none c none)).set j (.fz (.tuple (b1.map .bool)))).set j (.fz (.tuple ((b1 ++ b2).map .bool)))) := by
  have g0 : getS (ρ.set i (.ex a none c none)) i = .ex a none c none := by
    unfold getS
    rw [List.getD_eq_getElem?_getD, List.getElem?_set_self hi]
    rfl
  have g1 : getS ((ρ.set i (.ex a none c none)).set j (.fz (.tuple (b1.map .bool)))) i = .ex a none c none := by
    unfold getS
    rw [List.getD_eq_getElem?_getD, List.getElem?_set_ne (fun z => hij z.symm), List.getElem?_set_self hi]
    rfl
  have g2 : getS ((ρ.set i (.ex a none c none)).set j (.fz (.tuple (b1.map .bool)))) j = .fz (.tuple (b1.map .bool)) := by
    unfold getS
    rw [List.getD_eq_getElem?_getD, List.getElem?_set_self (by rw [List.length_set]; exact hj)]
    rfl
  have l1 : (b1.map PyData.bool).length ≤ 1000000 := by rw [List.length_map]; omega
  have l2 : (b2.map PyData.bool).length ≤ 1000000 := by rw [List.length_map]; omega
  have e1 : ev P (.tup (isEs a none c i n1)) (ρ.set i (.ex a none c none)) = .ok (.tuple (b1.map .bool)) := by
    simp only [ev, evs_is g0 h1, ok_bind, if_pos l1]
  have e2 : ev P (.bin .add (.var j) (.tup (isEs a none c i n2))) ((ρ.set i (.ex a none c none)).set j (.fz (.tuple (b1.map .bool)))) = .ok (.tuple ((b1 ++ b2).map .bool)) := by
    have l3 : (b1.map PyData.bool).length + (b2.map PyData.bool).length ≤ 1000000 := by rw [List.length_map, List.length_map]; omega
    simp only [ev, g2, evs_is g1 h2, ok_bind, if_pos l2, binD, if_pos l3, List.map_append]
  simp only [isSs, exSs, exS, e1, e2, out_ok, thn_nx]
theorem s_tryI {c x z : Str} {i j : Nat} {n1 n2 : List Str} {e : E} {y : Expr} {xs ys : List Expr} {yp np hp tp zp p1 a1 zp' zq p2 p3 a2 : Pos} {k1 k2 : Nat} (g : Gs X T P n W) (hcl : T.cl = false) (hg : glB X.env.scope c = true) (ho : okN c = true) (hm : ∃ C, X.mg c = some (.ref C)) (hy : isLc y = false) (he : okE T n X.N X.env.scope e y = true)
    (hi : X.N[i]? = some x) (hx : locB X.env.scope x = true) (hxo : okN x = true) (hj : X.N[j]? = some z) (hs : stoB X.env.scope z = true) (hv : visB X.env.scope z = true) (hzo : okN z = true) (hI : glB X.env.scope "isinstance" = true) (q1 : isCs x xs = some n1) (q2 : isCs x ys = some n2)
    (ha : ((n1 ++ n2).all fun C => glB X.env.scope C && okN C) = true) :
    PS X (.Try [.Expr y yp] [.ExceptHandler (some (.Name c np)) (some x) [.Assign [.Name z zp] (.Tuple xs k1 p1) a1, .Assign [.Name z zp'] (.BinOp (.Name z zq) .Add (.Tuple ys k2 p2) p3) a2] hp] [] [] tp) (tS X W fr (exS P (.tryI e c i j n1 n2))) := by
  obtain ⟨C, hC⟩ := hm
  have hg' : X.env.scope.names.lookup c = some .globalImplicit := of_decide_eq_true hg
  have hln : X.env.kindOf x = some .local := of_decide_eq_true hx
  have hxv : visB X.env.scope x = true := by
    unfold visB
    have : X.env.scope.names.lookup x = some .local := hln
    rw [this]
  rw [List.all_append, Bool.and_eq_true] at ha
  refine PS.imp (ps_try_as (ts := fun a cls d D σ H => ∃ c' D', X.mg c' = some (.ref D') ∧ cls = .ref D' ∧ d = none ∧ tS X (fun _ _ _ _ => False) 0 (exSs P (isSs a c' i j n1 n2)) D σ H) (tb := fun W' => tDrop (tK X P W' (kd T e) e)) g.stk g.frm g.nd hi hln ⟨hg', okN_d ho, .inl hC⟩ (tk_low g hcl)
    (fun W' pn xe tk ps => pss_one (ps_expr (snd_E e (X.tr pn xe) W' y (g.tr0 hcl tk ps).toGd he).pe (swaps_plain hy))) fun a oe cls d pn hz hf => ?_) fun D σ H ⟨He, Ge, G, ρ, s, q⟩ => ?_
  · refine ⟨fun pins s σ H D I h => ?_⟩
    obtain ⟨c', D', m1, rfl, rfl, h⟩ := h
    have A1 := s_isEs (a := a) (oe := oe) (pn := pn) (P := P) (i := i) g m1 hz hf hi hxv hxo hI q1 ha.1
    have A2 := s_isEs (a := a) (oe := oe) (pn := pn) (P := P) (i := i) g m1 hz hf hi hxv hxo hI q2 ha.2
    have t1 := s_tup (k := k1) (pos := p1) A1
    have t2 := s_tup (k := k2) (pos := p2) A2
    have vz : PE (X.suite a ((a, oe) :: pn)) (.Name z zq) (tK (X.suite a ((a, oe) :: pn)) P (fun _ _ _ _ => False) 0 (.var j)) := s_var (X := X.suite a ((a, oe) :: pn)) (T := T) (n := n) (i := j) (nm := z) (by
      simp only [okE, Bool.and_eq_true, decide_eq_true_eq]
      exact ⟨⟨hj, hv⟩, hzo⟩)
    have b2 := s_bin (o := .add) (pos := p3) vz t2
    have P1 := PS.imp (ps_set (X := X.suite a ((a, oe) :: pn)) (pos := a1) (pos' := zp) g.nd hj (loc_sto hs) t1 (swaps_plain rfl) (.inl (g.fnT _))) (c_set (W := fun _ _ _ _ => False) (fr := 0))
    have P2 := PS.imp (ps_set (X := X.suite a ((a, oe) :: pn)) (pos := a2) (pos' := zp') g.nd hj (loc_sto hs) b2 (swaps_plain rfl) (.inl (g.fnT _))) (c_set (W := fun _ _ _ _ => False) (fr := 0))
    have A : PSs (X.suite a ((a, oe) :: pn)) [.Assign [.Name z zp] (.Tuple xs k1 p1) a1, .Assign [.Name z zp'] (.BinOp (.Name z zq) .Add (.Tuple ys k2 p2) p3) a2] (tS (X.suite a ((a, oe) :: pn)) (fun _ _ _ _ => False) 0 (exSs P (isSs a c' i j n1 n2))) := by
      refine PSs.imp (pss_cons P1 (pss_cons P2 pss_nil)) fun D σ H ⟨He, Ge, G, ρ, z, q⟩ => ?_
      simp only [isSs, exSs] at q
      refine ⟨He, Ge, G, ρ, z, ?_⟩
      cases qo : exS P (.set j (.tup (isEs a none c' i n1))) ρ with
      | nx ρ5 =>
        rw [qo] at q
        refine fun σ6 H6 G6 s6 => ⟨He, Ge, G6, ρ5, s6, ?_⟩
        simp only [thn_nx] at q
        cases qo2 : exS P (.set j (.bin .add (.var j) (.tup (isEs a none c' i n2)))) ρ5 with
        | nx ρ7 => rw [qo2] at q; exact q
        | ct ρ7 => rw [qo2] at q; exact q
        | ret d => rw [qo2] at q; exact q
        | exc c z => rw [qo2] at q; exact q
        | bad => rw [qo2] at q; exact q
      | ct ρ5 => rw [qo] at q; exact q
      | ret d => rw [qo] at q; exact q
      | exc c z => rw [qo] at q; exact q
      | bad => rw [qo] at q; exact q
    exact A.run pins s σ H D I h
  · simp only [exS] at q
    refine ⟨He, G, ρ, s.er, ?_⟩
    cases qe : ev P e ρ with
    | ok d =>
      rw [qe] at q
      exact fun v H1 G1 x1 r1 => q σ H1 G1 (s.on x1)
    | bad => rw [qe] at q; exact q.elim
    | exc c' w =>
      rw [qe] at q
      simp only [tryIO] at q
      cases qm : P.X c' c with
      | none => rw [qm] at q; exact q.elim
      | some b =>
        rw [qm] at q
        obtain ⟨C1, C2, m1, m2, m3⟩ := g.exm c' c b qm
        rw [hC] at m2
        cases m2
        intro cls dx H1 G1 x1 r1
        obtain ⟨⟨C3, m4, rfl⟩, r2⟩ := r1
        rw [m1] at m4
        cases m4
        refine ⟨b, m3, fun hb a na => ?_, fun hb => ?_⟩
        · subst hb
          simp only at q
          cases w with
          | some _ => exact q.elim
          | none =>
            cases w1 : isAll (P.I c') n1 with
            | none => rw [w1] at q; exact q.elim
            | some b1 =>
              cases w2 : isAll (P.I c') n2 with
              | none => rw [w1, w2] at q; exact q.elim
              | some b2 =>
                rw [w1, w2] at q
                simp only at q
                split at q
                · rename_i hh
                  obtain ⟨l1, l2, l3, l4⟩ := hh
                  refine ⟨c', C1, m1, rfl, r2, He, Ge, G1, _, (s.on x1).setX i a c', ?_⟩
                  rw [is_run w1 w2 l1 l2 l3 l4]
                  intro σ5 H5 G5 s5
                  have s6 := s5.unset i (o := none)
                  have e : (((ρ.set i (.ex a none c' none)).set j (.fz (.tuple (b1.map .bool)))).set j (.fz (.tuple ((b1 ++ b2).map .bool)))).set i .un = (ρ.set j (.fz (.tuple ((b1 ++ b2).map .bool)))).set i .un := by
                    rw [List.set_set, List.set_comm _ _ (fun z => l3 z), List.set_set]
                  rw [e] at s6
                  exact q _ H5 G5 s6
                · exact q.elim
        · subst hb
          exact q _ dx σ H1 G1 (s.ext.trans x1) ⟨⟨C1, m1, rfl⟩, r2⟩
/-- a statement, then others -/
theorem pss_S {X : Cx} {W : WX} {fr : Nat} {st : Stmt} {sts : List Stmt} {s : S} {r : Ss} (A : PS X st (tS X W fr (exS P s))) (B : PSs X sts (tS X W fr (exSs P r))) : PSs X (st :: sts) (tS X W fr (exSs P (.cons s r))) := by
  refine PSs.imp (pss_cons A B) fun D σ H ⟨He, Ge, G, ρ, z, q⟩ => ?_
  simp only [exSs] at q
  refine ⟨He, Ge, G, ρ, z, ?_⟩
  cases qo : exS P s ρ with
  | nx ρ5 => rw [qo] at q; exact fun σ6 H6 G6 s6 => ⟨He, Ge, G6, ρ5, s6, q⟩
  | ct ρ5 => rw [qo] at q; exact q
  | ret d => rw [qo] at q; exact q
  | exc c z => rw [qo] at q; exact q
  | bad => rw [qo] at q; exact q
/-- a slot's thing is an exception with a row -/
theorem SR.setXr {He Ge H G : Hp} {ρ : En} {σ : L2.St} (s : SR X.K He Ge ρ σ H G) (i : Nat) (a : Addr) (c : Str) {dx : Addr} {v : V} {d : Dat} (hx : H dx = some (.xd [(("row" : Str), v)])) (rv : Rep X.K G v d) : SR X.K He Ge (ρ.set i (.ex a (some dx) c (some d))) (σ.set i (some (.ref a))) H G := by
  have key : ∀ (j : Nat) (ds : List Dat), (ρ.set i (.ex a (some dx) c (some d)))[j]? = some (.ow ds) → j ≠ i ∧ ρ[j]? = some (.ow ds) := fun j ds e => by
    by_cases h : i = j
    · subst h
      rw [List.getElem?_set] at e
      simp at e
    · rw [List.getElem?_set_ne h] at e
      exact ⟨fun z => h z.symm, e⟩
  refine ⟨s.ext, ⟨s.er.bas, s.er.sub, by simp [s.er.len], fun j z e => ?_⟩, fun j ds b e1 e2 => ?_, fun j k ds es b hjk e1 e2 e3 e4 => ?_⟩
  · by_cases h : i = j
    · subst h
      have hi : i < ρ.length := by
        by_cases hi : i < ρ.length
        · exact hi
        · rw [List.getElem?_eq_none (by rw [List.length_set]; omega)] at e; cases e
      rw [List.getElem?_set_self hi] at e
      cases e
      exact ⟨_, List.getElem?_set_self (by rw [← s.er.len]; exact hi), rfl, dx, v, rfl, hx, rv⟩
    · rw [List.getElem?_set_ne h] at e
      obtain ⟨o, h1, h2⟩ := s.er.at_ j z e
      exact ⟨o, by rw [List.getElem?_set_ne h]; exact h1, h2⟩
  · obtain ⟨n1, e1⟩ := key j ds e1
    rw [List.getElem?_set_ne (fun z => n1 z.symm)] at e2
    exact s.own j ds b e1 e2
  · obtain ⟨n1, e1⟩ := key j ds e1
    obtain ⟨n2, e2⟩ := key k es e2
    rw [List.getElem?_set_ne (fun z => n1 z.symm)] at e3
    rw [List.getElem?_set_ne (fun z => n2 z.symm)] at e4
    exact s.sep j k ds es b hjk e1 e2 e3 e4
theorem s_row {a : Addr} {dx : Option Addr} {oe : Obj} {pn : List (Addr × Obj)} {c x : Str} {i : Nat} {D : Addr} {xp rp : Pos} (g : Gs X T P n W) (ec : ExcC X.K D) (hno : PySem.W.findIn X.K (.ref D) "row" = some none) (hz : Zc (.ref D) dx oe) (hf : ∃ vs, oe.data = .fields vs)
    (hi : X.N[i]? = some x) (hv : visB X.env.scope x = true) (ho : okN x = true) : PE (X.suite a ((a, oe) :: pn)) (.Attribute (.Name x xp) "row" rp) (tK (X.suite a ((a, oe) :: pn)) P (fun _ _ _ _ => False) 0 (.xrw a dx c i)) := by
  refine PE.imp (pe_xf (X := X) ⟨ec.hg, ec.hk, ec.hs, ec.hd⟩ hno hz hf (pe_var (X := X.suite a ((a, oe) :: pn)) hi (vis_of hv) (okN_d ho) (okN_c ho))) fun σ H Q ⟨B, G, ρ, er, q⟩ => ?_
  simp only [ev] at q
  cases e : getS ρ i <;> rw [e] at q <;> try (exact q.elim)
  rename_i a' dx' c' x'
  cases x' with
  | none => exact q.elim
  | some d =>
    simp only at q
    split at q
    · rename_i hh
      obtain ⟨rfl, rfl, rfl⟩ := hh
      obtain ⟨o, h1, h2, dd, v, h3, h4, h5⟩ := er.at_ i _ (getS_some e nofun)
      subst h2
      exact ⟨_, h1, rfl, rfl, dd, _, v, h3, h4, by simp [List.lookup], q v H G (Ext.refl er.sub) h5⟩
    · exact q.elim
theorem pa_two {X : Cx} {W : WX} {e : Expr} {es : List Expr} {t : E} {r : Es} (A : PE X e (tK X P W 0 t)) (R : PA X es (tA X P W [] r)) (hs : starEach (e :: es) X.env = (false, eval e X.env) :: starEach es X.env) : PA X (e :: es) (tA X P W [] (.cons t r)) := by
  refine PA.imp (pa_cons A R hs) fun σ H Q ⟨B, G, ρ, er, q⟩ => ?_
  simp only [evs] at q
  refine bndA er q fun d v H1 G1 x1 r1 er1 q1 => ?_
  refine ⟨B, G1, ρ, er1, ?_⟩
  cases e1 : evs P r ρ with
  | ok ds =>
    rw [e1] at q1
    intro vs H2 G2 x2 r2
    exact q1 (v :: vs) H2 G2 x2 (.cons (by
      have r3 : Rep X.K G2 v d := Rep.mono x2.stl r1
      simpa using r3) r2)
  | exc c z => rw [e1] at q1; exact q1
  | bad => rw [e1] at q1; exact q1
/-- the clause's statements, as terms -/
def addSs (a : Addr) (dx : Option Addr) (c : Str) (i j : Nat) : List (List Str) → Ss
  | [] => .nil
  | n :: r => .cons (.set j (.bin .add (.var j) (.tup (isEs a dx c i n)))) (addSs a dx c i j r)
def rowSs (a : Addr) (dx : Option Addr) (c : Str) (i j : Nat) (n : List Str) (r : List (List Str)) : Ss := .cons (.set j (.tup (.cons (.xrw a dx c i) (isEs a dx c i n)))) (addSs a dx c i j r)
theorem isAll_app {f : Str → Option Bool} : ∀ {n m : List Str} {bs : List Bool}, isAll f (n ++ m) = some bs → ∃ b1 b2, isAll f n = some b1 ∧ isAll f m = some b2 ∧ bs = b1 ++ b2
  | [], m, bs, h => ⟨[], bs, rfl, h, rfl⟩
  | c :: n, m, bs, h => by
    simp only [List.cons_append, isAll] at h
    cases q1 : f c with
    | none => rw [q1] at h; cases h
    | some b =>
      cases q2 : isAll f (n ++ m) with
      | none => rw [q1, q2] at h; cases h
      | some bs' =>
        rw [q1, q2] at h
        cases h
        obtain ⟨b1, b2, e1, e2, rfl⟩ := isAll_app q2
        exact ⟨b :: b1, b2, by simp only [isAll, q1, e1], e2, rfl⟩
theorem add_run {a : Addr} {dx : Option Addr} {c : Str} {i j : Nat} {x : Option Dat} : ∀ {ns : List (List Str)} {bs : List Bool} {ds : List Dat} {ρ : En}, isAll (P.I c) ns.flatten = some bs → getS ρ i = .ex a dx c x → i ≠ j → j < ρ.length → ds.length + bs.length ≤ 2000 →
    exSs P (addSs a dx c i j ns) (ρ.set j (.fz (.tuple ds))) = .nx (ρ.set j (.fz (.tuple (ds ++ bs.map .bool))))
  | [], bs, ds, ρ, h, _, _, _, _ => by
    simp only [List.flatten_nil, isAll] at h
    cases h
    simp only [addSs, exSs, List.map_nil, List.append_nil]
  | n :: r, bs, ds, ρ, h, hi, hij, hj, hl => by
    rw [List.flatten_cons] at h
    obtain ⟨b1, b2, e1, e2, rfl⟩ := isAll_app h
    rw [List.length_append] at hl
    have g1 : getS (ρ.set j (.fz (.tuple ds))) i = .ex a dx c x := by
      unfold getS at hi ⊢
      rw [List.getD_eq_getElem?_getD] at hi ⊢
      rw [List.getElem?_set_ne (fun z => hij z.symm)]
      exact hi
    have g2 : getS (ρ.set j (.fz (.tuple ds))) j = .fz (.tuple ds) := by
      unfold getS
      rw [List.getD_eq_getElem?_getD, List.getElem?_set_self hj]
      rfl
    have l1 : (b1.map PyData.bool).length ≤ 1000000 := by rw [List.length_map]; omega
    have l2 : ds.length + (b1.map PyData.bool).length ≤ 1000000 := by rw [List.length_map]; omega
    have e3 : ev P (.bin .add (.var j) (.tup (isEs a dx c i n))) (ρ.set j (.fz (.tuple ds))) = .ok (.tuple (ds ++ b1.map .bool)) := by
      simp only [ev, g2, evs_is g1 e1, ok_bind, if_pos l1, binD, if_pos l2]
    have ih := add_run (ns := r) (bs := b2) (ds := ds ++ b1.map .bool) e2 hi hij hj (by rw [List.length_append, List.length_map]; omega)
    simp only [addSs, exSs, exS, e3, out_ok, thn_nx, List.set_set]
    rw [ih, List.map_append, List.append_assoc]
theorem row_run {a : Addr} {dx : Option Addr} {c : Str} {i j : Nat} {n : List Str} {r : List (List Str)} {bs : List Bool} {d : Dat} {ρ : En} (h : isAll (P.I c) (n :: r).flatten = some bs) (hi : i < ρ.length) (hj : j < ρ.length) (hij : i ≠ j) (hl : bs.length ≤ 1000) :
    exSs P (rowSs a dx c i j n r) (ρ.set i (.ex a dx c (some d))) = .nx ((ρ.set i (.ex a dx c (some d))).set j (.fz (.tuple (d :: bs.map .bool)))) := by
  rw [List.flatten_cons] at h
  obtain ⟨b1, b2, e1, e2, rfl⟩ := isAll_app h
  rw [List.length_append] at hl
  have g0 : getS (ρ.set i (.ex a dx c (some d))) i = .ex a dx c (some d) := by
    unfold getS
    rw [List.getD_eq_getElem?_getD, List.getElem?_set_self hi]
    rfl
  have l1 : (d :: b1.map PyData.bool).length ≤ 1000000 := by rw [List.length_cons, List.length_map]; omega
  have e3 : ev P (.tup (.cons (.xrw a dx c i) (isEs a dx c i n))) (ρ.set i (.ex a dx c (some d))) = .ok (.tuple (d :: b1.map .bool)) := by
    simp only [ev, evs, g0, evs_is g0 e1, ok_bind, if_pos l1, and_self, if_true]
  have z := add_run (P := P) (a := a) (dx := dx) (c := c) (i := i) (j := j) (x := some d) (ns := r) (bs := b2) (ds := d :: b1.map .bool) (ρ := ρ.set i (.ex a dx c (some d))) e2 g0 hij (by rw [List.length_set]; exact hj) (by rw [List.length_cons, List.length_map]; omega)
  simp only [rowSs, exSs, exS, e3, out_ok, thn_nx]
  rw [z, List.map_append, List.cons_append]
theorem s_restR {a : Addr} {dx : Option Addr} {oe : Obj} {pn : List (Addr × Obj)} {c x z : Str} {i j : Nat} {D : Addr} (g : Gs X T P n W) (hD : X.mg c = some (.ref D)) (hz : Zc (.ref D) dx oe) (hf : ∃ vs, oe.data = .fields vs)
    (hi : X.N[i]? = some x) (hv : visB X.env.scope x = true) (ho : okN x = true) (hj : X.N[j]? = some z) (hs : stoB X.env.scope z = true) (hvz : visB X.env.scope z = true) (hoz : okN z = true) (h1 : glB X.env.scope "isinstance" = true) :
    ∀ {sts : List Stmt} {ns : List (List Str)}, restR x z sts = some ns → (ns.flatten.all fun C => glB X.env.scope C && okN C) = true → PSs (X.suite a ((a, oe) :: pn)) sts (tS (X.suite a ((a, oe) :: pn)) (fun _ _ _ _ => False) 0 (exSs P (addSs a dx c i j ns)))
  | [], ns, e, _ => by
    simp only [restR] at e
    cases e
    exact PSs.imp pss_nil fun D σ H ⟨He, Ge, G, ρ, s, q⟩ => by
      simp only [addSs, exSs] at q
      exact q σ H G s
  | s :: sts, ns, e, ha => by
    obtain ⟨zp, zq, xs, k, p, pos, pos2, n1, ns', rfl, q1, q2, rfl⟩ := restR_ok e
    rw [List.flatten_cons, List.all_append, Bool.and_eq_true] at ha
    have A2 := s_isEs (a := a) (dx := dx) (oe := oe) (pn := pn) (P := P) (i := i) g hD hz hf hi hv ho h1 q1 ha.1
    have t2 := s_tup (k := k) (pos := p) A2
    have vz : PE (X.suite a ((a, oe) :: pn)) (.Name z zq) (tK (X.suite a ((a, oe) :: pn)) P (fun _ _ _ _ => False) 0 (.var j)) := s_var (X := X.suite a ((a, oe) :: pn)) (T := T) (n := n) (i := j) (nm := z) (by
      simp only [okE, Bool.and_eq_true, decide_eq_true_eq]
      exact ⟨⟨hj, hvz⟩, hoz⟩)
    have b2 := s_bin (o := .add) (pos := pos) vz t2
    have P2 := PS.imp (ps_set (X := X.suite a ((a, oe) :: pn)) (pos := pos2) (pos' := zp) g.nd hj (loc_sto hs) b2 (swaps_plain rfl) (.inl (g.fnT _))) (c_set (W := fun _ _ _ _ => False) (fr := 0))
    exact pss_S P2 (s_restR g hD hz hf hi hv ho hj hs hvz hoz h1 q2 ha.2)
theorem s_tryR {e : E} {c : Str} {i j : Nat} {ns : List (List Str)} {st : Stmt} (g : Gs X T P n W) (h : okTryR T n X.N X.env.scope e c i j ns st = true) : PS X st (tS X W fr (exS P (.tryR e c i j ns))) := by
  unfold okTryR at h
  cases qt : tryA c st with
  | none => rw [qt] at h; cases h
  | some p0 =>
    obtain ⟨b, x, sts⟩ := p0
    rw [qt] at h
    obtain ⟨np, hp, tp, rfl⟩ := tryA_ok qt
    simp only at h
    cases qb : expr1 b with
    | none => rw [qb] at h; cases sts <;> cases h
    | some y =>
      cases sts with
      | nil => rw [qb] at h; cases h
      | cons s0 r =>
        rw [qb] at h
        simp only at h
        cases q0 : firstR x s0 with
        | none => rw [q0] at h; cases h
        | some p1 =>
          obtain ⟨z, n0⟩ := p1
          rw [q0] at h
          simp only at h
          cases qr : restR x z r with
          | none => rw [qr] at h; cases h
          | some nr =>
            rw [qr] at h
            simp only [Bool.and_eq_true, decide_eq_true_eq, Bool.not_eq_true'] at h
            obtain ⟨⟨⟨⟨⟨⟨⟨⟨⟨⟨⟨⟨⟨⟨⟨⟨rfl, hne⟩, hg⟩, ho⟩, hx⟩, hcl⟩, hy⟩, he⟩, hi⟩, hxl⟩, hxo⟩, hj⟩, hs⟩, hv⟩, hzo⟩, hI⟩, ha⟩ := h
            obtain ⟨yp, rfl⟩ := expr1_ok qb
            obtain ⟨zp, xp, rp, xs, k, p, pos1, rfl, q3⟩ := firstR_ok q0
            have hC : ∃ C, X.mg c = some (.ref C) := by
              rw [Bool.or_eq_true] at hx
              rcases hx with hx | hx
              · obtain ⟨C, h, _⟩ := g.exs _ (List.contains_iff_mem.mp hx)
                exact ⟨C, h⟩
              · obtain ⟨C, h, _⟩ := g.exr _ (List.contains_iff_mem.mp hx)
                exact ⟨C, h⟩
            obtain ⟨C, hC⟩ := hC
            have hg' : X.env.scope.names.lookup c = some .globalImplicit := of_decide_eq_true hg
            have hln : X.env.kindOf x = some .local := of_decide_eq_true hxl
            have hxv : visB X.env.scope x = true := by
              unfold visB
              have : X.env.scope.names.lookup x = some .local := hln
              rw [this]
            have ha' := ha
            rw [List.flatten_cons, List.all_append, Bool.and_eq_true] at ha'
            refine PS.imp (ps_try_as (ts := fun a cls d D σ H => ∃ c' D', X.mg c' = some (.ref D') ∧ cls = .ref D' ∧ ExcC X.K D' ∧ PySem.W.findIn X.K (.ref D') "row" = some none ∧ tS X (fun _ _ _ _ => False) 0 (exSs P (rowSs a d c' i j n0 nr)) D σ H) (tb := fun W' => tDrop (tK X P W' (kd T e) e)) g.stk g.frm g.nd hi hln ⟨hg', okN_d ho, .inl hC⟩ (tk_low g hcl)
              (fun W' pn xe tk ps => pss_one (ps_expr (snd_E e (X.tr pn xe) W' y (g.tr0 hcl tk ps).toGd he).pe (swaps_plain hy))) fun a oe cls d pn hz hf => ?_) fun D σ H ⟨He, Ge, G, ρ, s, q⟩ => ?_
            · refine ⟨fun pins s σ H D I h => ?_⟩
              obtain ⟨c', D', m1, rfl, ec, hno, h⟩ := h
              have A0 := s_row (a := a) (oe := oe) (pn := pn) (P := P) (c := c') (i := i) (xp := xp) (rp := rp) g ec hno hz hf hi hxv hxo
              have A1 := s_isEs (a := a) (oe := oe) (pn := pn) (P := P) (i := i) g m1 hz hf hi hxv hxo hI q3 ha'.1
              have t1 := s_tup (k := k) (pos := p) (pa_two A0 A1 rfl)
              have P1 := PS.imp (ps_set (X := X.suite a ((a, oe) :: pn)) (pos := pos1) (pos' := zp) g.nd hj (loc_sto hs) t1 (swaps_plain rfl) (.inl (g.fnT _))) (c_set (W := fun _ _ _ _ => False) (fr := 0))
              exact (pss_S P1 (s_restR g m1 hz hf hi hxv hxo hj hs hv hzo hI qr ha'.2)).run pins s σ H D I h
            · simp only [exS] at q
              refine ⟨He, G, ρ, s.er, ?_⟩
              cases qe : ev P e ρ with
              | ok d =>
                rw [qe] at q
                exact fun v H1 G1 x1 r1 => q σ H1 G1 (s.on x1)
              | bad => rw [qe] at q; exact q.elim
              | exc c' w =>
                rw [qe] at q
                simp only [tryRO] at q
                cases qm : P.X c' c with
                | none => rw [qm] at q; exact q.elim
                | some b =>
                  rw [qm] at q
                  obtain ⟨C1, C2, m1, m2, m3⟩ := g.exm c' c b qm
                  rw [hC] at m2
                  cases m2
                  intro cls dx H1 G1 x1 r1
                  obtain ⟨⟨C3, m4, rfl⟩, r2⟩ := r1
                  rw [m1] at m4
                  cases m4
                  refine ⟨b, m3, fun hb a na => ?_, fun hb => ?_⟩
                  · subst hb
                    simp only at q
                    cases w with
                    | none => exact q.elim
                    | some d =>
                      cases w1 : isAll (P.I c') (n0 :: nr).flatten with
                      | none => rw [w1] at q; exact q.elim
                      | some bs =>
                        rw [w1] at q
                        simp only at q
                        split at q
                        · rename_i hh
                          obtain ⟨l1, l2, l3, l4⟩ := hh
                          obtain ⟨dd, v, e1, e2, e3⟩ := r2
                          subst e1
                          have hec : ExcC X.K C1 ∧ PySem.W.findIn X.K (.ref C1) "row" = some none := by
                            cases qf : (n0 :: nr).flatten with
                            | nil => rw [qf] at hne; cases hne
                            | cons C0 rest =>
                              rw [qf] at w1
                              simp only [isAll] at w1
                              cases qI : P.I c' C0 with
                              | none => rw [qI] at w1; cases w1
                              | some b0 =>
                                obtain ⟨D', k1, k2, k3, _⟩ := g.iss c' C0 b0 qI
                                rw [m1] at k1
                                cases k1
                                exact ⟨k2, k3⟩
                          refine ⟨c', C1, m1, rfl, hec.1, hec.2, He, Ge, G1, _, (s.on x1).setXr i a c' e2 e3, ?_⟩
                          rw [row_run w1 l1 l2 l3 l4]
                          intro σ5 H5 G5 s5
                          have s6 := s5.unset i (o := none)
                          have e : ((ρ.set i (.ex a (some dd) c' (some d))).set j (.fz (.tuple (d :: bs.map .bool)))).set i .un = (ρ.set j (.fz (.tuple (d :: bs.map .bool)))).set i .un := by
                            rw [List.set_comm _ _ (fun z => l3 z), List.set_set]
                          rw [e] at s6
                          exact q _ H5 G5 s6
                        · exact q.elim
                  · subst hb
                    exact q _ dx σ H1 G1 (s.ext.trans x1) ⟨⟨C1, m1, rfl⟩, r2⟩
/-- parts, of which some are new lists -/
inductive RAsF (K : PySem.W.Frag) (H G : Hp) : List Bool → List V → List Dat → Prop
  | nil {fl : List Bool} : RAsF K H G fl [] []
  | cons {b : Bool} {fl : List Bool} {v : V} {vs : List V} {d : Dat} {ds : List Dat} : Rep K G v d → (b = true → FreshL K H G v d) → RAsF K H G fl vs ds → RAsF K H G (b :: fl) (v :: vs) (d :: ds)
theorem RAsF.reps {K : PySem.W.Frag} {H G : Hp} : ∀ {fl : List Bool} {vs : List V} {ds : List Dat}, RAsF K H G fl vs ds → Reps K G vs ds
  | _, _, _, .nil => .nil
  | _, _, _, .cons r _ t => .cons r t.reps
theorem FreshL.mono {K : PySem.W.Frag} {H G G' : Hp} {v : V} {d : Dat} (s : Same G G') (f : FreshL K H G v d) : FreshL K H G' v d := fun ds e => by
  obtain ⟨a, vs, e1, e2, e3, e4⟩ := f ds e
  exact ⟨a, vs, e1, e2, s _ _ e3, e4.mono s⟩
theorem FreshL.back {K : PySem.W.Frag} {H H1 G : Hp} {v : V} {d : Dat} (s : Same H H1) (f : FreshL K H1 G v d) : FreshL K H G v d := fun ds e => by
  obtain ⟨a, vs, e1, e2, e3, e4⟩ := f ds e
  exact ⟨a, vs, e1, s.free e2, e3, e4⟩
theorem RAsF.back {K : PySem.W.Frag} {H H1 G : Hp} (s : Same H H1) : ∀ {fl : List Bool} {vs : List V} {ds : List Dat}, RAsF K H1 G fl vs ds → RAsF K H G fl vs ds
  | _, _, _, .nil => .nil
  | _, _, _, .cons r f t => .cons r (fun b => (f b).back s) (t.back s)
theorem RAsF.at_ {K : PySem.W.Frag} {H G : Hp} : ∀ {fl : List Bool} {vs : List V} {ds : List Dat}, RAsF K H G fl vs ds → ∀ (i : Nat) (u : V) (e : Dat), vs[i]? = some u → ds[i]? = some e → fl[i]? = some true → FreshL K H G u e
  | _, _, _, .nil, i, u, e, h, _, _ => by simp at h
  | _, _, _, .cons r f t, 0, u, e, h1, h2, h3 => by
    simp at h1 h2 h3
    subst h1 h2
    exact f h3
  | _, _, _, .cons r f t, i + 1, u, e, h1, h2, h3 => t.at_ i u e (by simpa using h1) (by simpa using h2) (by simpa using h3)
def EndAF (X : Cx) (W : WX) (fl : List Bool) (σ : L2.St) (H G : Hp) (Q : List V → Hp → Prop) : Res (List Dat) → Prop
  | .ok ds => ∀ vs H' G', Ext H G H' G' → RAsF X.K H G' fl vs ds → Q vs H'
  | .exc c x => ∀ cls dx H' G', Ext H G H' G' → XR X.K X.mg H' G' cls dx c x → W cls dx σ H'
  | .bad => False
def tAF (X : Cx) (P : Pg) (W : WX) (fl : List Bool) (es : Es) : TA := fun σ H Q => ∃ B G ρ, ER X.K B ρ σ H G ∧ EndAF X W fl σ H G Q (evs P es ρ)
theorem own_frz {K : PySem.W.Frag} {H G H' G' : Hp} {v : V} {d : Dat} (x : Ext H G H' G') (r : RK K 2 H H' G' v d) : ∃ G2, Ext H G H' G2 ∧ Rep K G2 v d ∧ FreshL K H G2 v d := by
  obtain ⟨a, vs, ds, rfl, rfl, na, ga, ha, rr⟩ := r
  have g1 : Same G' (upd G' a (.lst vs)) := fun b u q => by rw [upd_ne (ne_of_none q ga)]; exact q
  refine ⟨upd G' a (.lst vs), ⟨x.all, x.stl.trans g1, fun b u q => ?_, fun b q => ?_⟩, .lst (SqL.of upd_same) (rr.mono g1), fun es e => ?_⟩
  · by_cases hb : b = a
    · subst hb; rw [upd_same] at q; rw [← q]; exact ha
    · rw [upd_ne hb] at q; exact x.sub _ _ q
  · by_cases hb : b = a
    · subst hb; exact .inr na
    · rw [upd_ne hb] at q; exact x.new b q
  · cases e
    exact ⟨a, vs, rfl, na, upd_same, rr.mono g1⟩
theorem snd_AF : ∀ (es : Es) (X : Cx) (W : WX) (xs : List Expr), Gd X T P n W → okEs T n X.N X.env.scope [] es xs = true → PA X xs (tAF X P W (flE T es) es)
  | .nil, X, W, xs, g, h => by
    cases xs with
    | nil =>
      exact PA.imp pa_nil fun σ H Q ⟨B, G, ρ, er, q⟩ => by
        simp only [evs] at q
        exact q [] H G (Ext.refl er.sub) .nil
    | cons _ _ => simp [okEs] at h
  | .cons e r, X, W, xs, g, h => by
    cases xs with
    | nil => simp [okEs] at h
    | cons x xs =>
      simp only [okEs, Bool.and_eq_true, Bool.or_eq_true, bne_iff_ne] at h
      obtain ⟨⟨⟨h1, h2⟩, h3⟩, h4⟩ := h
      have A := (snd_E (P := P) e X W _ g h2).pe
      have R := snd_AF r X W _ g h4
      have hk : kd T e ≠ 1 := h3.resolve_right (by simp)
      by_cases h2k : kd T e = 2
      · rw [h2k] at A
        refine PA.imp (pa_cons A R (star_cons h1)) fun σ H Q ⟨B, G, ρ, er, q⟩ => ?_
        simp only [evs] at q
        refine ⟨B, G, ρ, er, ?_⟩
        cases qe : ev P e ρ with
        | exc c z => rw [qe] at q; exact q
        | bad => rw [qe] at q; exact q
        | ok d =>
          rw [qe] at q
          intro v H1 G1 x1 r1
          obtain ⟨G2, x2, rr, fr⟩ := own_frz x1 r1
          refine ⟨B, G2, ρ, er.ext x2, ?_⟩
          cases e1 : evs P r ρ with
          | ok ds =>
            rw [e1] at q
            intro vs H3 G3 x3 r3
            refine q (v :: vs) H3 G3 (x2.trans x3) ?_
            rw [flE]
            exact .cons (rr.mono x3.stl) (fun _ => fr.mono x3.stl) (r3.back x2.all)
          | exc c z => rw [e1] at q; exact fun cls dx H' G' y w => q cls dx H' G' (x2.trans y) w
          | bad => rw [e1] at q; exact q
      · refine PA.imp (pa_cons (stillE hk A) R (star_cons h1)) fun σ H Q ⟨B, G, ρ, er, q⟩ => ?_
        simp only [evs] at q
        refine ⟨B, G, ρ, er, ?_⟩
        cases qe : ev P e ρ with
        | exc c z => rw [qe] at q; exact q
        | bad => rw [qe] at q; exact q
        | ok d =>
          rw [qe] at q
          intro v H1 G1 x1 r1
          refine ⟨B, G1, ρ, er.ext x1, ?_⟩
          cases e1 : evs P r ρ with
          | ok ds =>
            rw [e1] at q
            intro vs H3 G3 x3 r3
            refine q (v :: vs) H3 G3 (x1.trans x3) ?_
            rw [flE]
            exact .cons (Rep.mono x3.stl r1) (fun b => absurd (of_decide_eq_true b) h2k) (r3.back x1.all)
          | exc c z => rw [e1] at q; exact fun cls dx H' G' y w => q cls dx H' G' (x1.trans y) w
          | bad => rw [e1] at q; exact q
/-- return (..), its new lists told -/
theorem s_retF {es : Es} {xs : List Expr} {k : Nat} {p : Pos} (g : Gs X T P n W) (h : okEs T n X.N X.env.scope [] es xs = true) : PS X (.Return (some (.Tuple xs k p)) pos) (tS X W 3 (exS P (.retF (flE T es) es))) := by
  refine PS.imp (ps_ret (pe_tup (snd_AF es X W xs g.toGd h))) fun D σ H ⟨He, Ge, G, ρ, s, q⟩ => ?_
  simp only [exS] at q
  refine ⟨He, G, ρ, s.er, ?_⟩
  cases qe : evs P es ρ with
  | exc c z => rw [qe] at q; exact fun cls dx H' G' x r => q cls dx σ H' G' (s.ext.trans x) r
  | bad => rw [qe] at q; exact q
  | ok ds =>
    rw [qe] at q
    simp only [out_ok] at q
    intro vs H1 G1 x1 r1
    split at q
    · rename_i hz
      obtain ⟨hz1, hz2⟩ := hz
      have s1 := s.on x1
      have rr := r1.reps
      refine ⟨by rw [rr.length]; exact le_line hz1, fun t nt => ?_⟩
      have x2 : Ext H1 G1 (upd H1 t (.tup vs)) (upd G1 t (.tup vs)) := Ext.made s1.er.sub nt _
      refine q _ _ _ (s.ext.trans (x1.trans x2)) ⟨.tup (SqT.of upd_same) (rr.mono x2.stl), fun ds' e => ?_⟩
      cases e
      refine ⟨t, vs, rfl, SqT.of upd_same, rr.mono x2.stl, fun i u e h1 h2 => ?_⟩
      cases hf : (flE T es)[i]? with
      | none => 
        exact fun es' he => by
          have := freshT_none hz2 i e h2 hf
          rw [he] at this
          cases this
      | some b =>
        cases b with
        | true => exact ((r1.at_ i u e h1 h2 hf).mono x2.stl).back s.ext.all
        | false =>
          exact fun es' he => by
            have := freshT_false hz2 i e h2 hf
            rw [he] at this
            cases this
    · exact q.elim
theorem tK_mono {k : Nat} {e : E} {σ : L2.St} {H : Hp} {Q Q' : VK} (q : tK X P W k e σ H Q) (h : ∀ v H1, Q v H1 → Q' v H1) : tK X P W k e σ H Q' := by
  obtain ⟨B, G, ρ, er, q⟩ := q
  refine ⟨B, G, ρ, er, ?_⟩
  cases qe : ev P e ρ with
  | ok d => rw [qe] at q; exact fun v H' G' x r => h _ _ (q v H' G' x r)
  | exc c z => rw [qe] at q; exact q
  | bad => rw [qe] at q; exact q
/-- .., behind them x -/
def EndAL (X : Cx) (W : WX) (a : Addr) (σ : L2.St) (H G : Hp) (Q : List V → Hp → Prop) : Res (List Dat) → Prop
  | .ok ds => ∀ vs H' G', Ext H G H' G' → Reps X.K G' vs ds → Q (vs ++ [.ref a]) H'
  | .exc c x => ∀ cls dx H' G', Ext H G H' G' → XR X.K X.mg H' G' cls dx c x → W cls dx σ H'
  | .bad => False
def tAL (X : Cx) (P : Pg) (W : WX) (i : Nat) (es : Es) : TA := fun σ H Q => ∃ B G ρ a, ER X.K B ρ σ H G ∧ σ[i]? = some (some (.ref a)) ∧ EndAL X W a σ H G Q (evs P es ρ)
theorem snd_AL {i : Nat} {nm : Str} : ∀ (es : Es) (X : Cx) (W : WX) (xs : List Expr), Gd X T P n W → X.N[i]? = some nm → visB X.env.scope nm = true → okN nm = true → okEsL T n X.N X.env.scope nm es xs = true → PA X xs (tAL X P W i es)
  | .nil, X, W, xs, g, h1, h2, h3, h => by
    match xs, h with
    | [], h => simp [okEsL] at h
    | _ :: _ :: _, h => simp [okEsL] at h
    | [e], h =>
      simp only [okEsL] at h
      obtain ⟨np, rfl⟩ := nmE_ok h
      refine PA.imp (pa_cons (pe_var h1 (vis_of h2) (okN_d h3) (okN_c h3)) pa_nil (star_cons rfl)) fun σ H Q ⟨B, G, ρ, a, er, k1, q⟩ => ?_
      simp only [evs] at q
      exact ⟨_, k1, q [] H G (Ext.refl er.sub) .nil⟩
  | .cons e r, X, W, xs, g, h1, h2, h3, h => by
    cases xs with
    | nil => simp [okEsL] at h
    | cons x xs =>
      simp only [okEsL, Bool.and_eq_true, bne_iff_ne] at h
      obtain ⟨⟨⟨k1, k2⟩, k3⟩, k4⟩ := h
      have A := (snd_E (P := P) e X W _ g k2).pe
      have R := snd_AL r X W _ g h1 h2 h3 k4
      refine PA.imp (pa_cons (stillE k3 A) R (star_cons k1)) fun σ H Q ⟨B, G, ρ, a, er, ka, q⟩ => ?_
      simp only [evs] at q
      refine ⟨B, G, ρ, er, ?_⟩
      cases qe : ev P e ρ with
      | exc c z => rw [qe] at q; exact q
      | bad => rw [qe] at q; exact q
      | ok d =>
        rw [qe] at q
        intro v H1 G1 x1 r1
        refine ⟨B, G1, ρ, a, er.ext x1, ka, ?_⟩
        cases e1 : evs P r ρ with
        | ok ds =>
          rw [e1] at q
          intro vs H3 G3 x3 r3
          exact q (v :: vs) H3 G3 (x1.trans x3) (.cons (Rep.mono x3.stl r1) r3)
        | exc c z => rw [e1] at q; exact fun cls dx H' G' y w => q cls dx H' G' (x1.trans y) w
        | bad => rw [e1] at q; exact q
theorem freshT_nil_at : ∀ {ds : List Dat}, freshT [] ds = true → ∀ (i : Nat) (e : Dat), ds[i]? = some e → isLst e = false := fun h i e h1 => freshT_none h i e h1 (by simp)
/-- return (.., x), x a list of one's own -/
theorem s_retL {es : Es} {xs : List Expr} {k i : Nat} {nm : Str} {p : Pos} (g : Gs X T P n W) (hi : X.N[i]? = some nm) (hv : visB X.env.scope nm = true) (ho : okN nm = true) (h : okEsL T n X.N X.env.scope nm es xs = true) : PS X (.Return (some (.Tuple xs k p)) pos) (tS X W 3 (exS P (.retL es i))) := by
  refine PS.imp (ps_ret (pe_tup (snd_AL es X W xs g.toGd hi hv ho h))) fun D σ H ⟨He, Ge, G, ρ, s, q⟩ => ?_
  simp only [exS] at q
  cases hd : getS ρ i with
  | ow ys =>
    simp only [hd] at q
    have e0 := getS_some hd nofun
    obtain ⟨o, k1, a, us, rfl, k2, ga, rr⟩ := s.er.at_ i _ e0
    refine ⟨He, G, ρ, a, s.er, k1, ?_⟩
    cases qe : evs P es ρ with
    | exc c z => rw [qe] at q; exact fun cls dx H' G' x r => q cls dx σ H' G' (s.ext.trans x) r
    | bad => rw [qe] at q; exact q
    | ok ds =>
      rw [qe] at q
      simp only [out_ok] at q
      intro vs H1 G1 x1 r1
      split at q
      · rename_i hz
        obtain ⟨hz1, hz2⟩ := hz
        obtain ⟨G2, a', us', s2, m1, m2, m3, m4, m5⟩ := (s.on x1).frz e0
        rw [k1] at m1
        cases m1
        have s1 := s.on x1
        refine ⟨by rw [List.length_append, r1.length]; exact le_line hz1, fun t nt => ?_⟩
        have x2 : Ext H1 G2 (upd H1 t (.tup (vs ++ [.ref a]))) (upd G2 t (.tup (vs ++ [.ref a]))) := Ext.made s2.er.sub nt _
        have ra : Rep X.K G2 (.ref a) (.list ys) := .lst (SqL.of m3) m4
        have rA : Reps X.K G2 (vs ++ [.ref a]) (ds ++ [.list ys]) := (r1.mono m5).append (.cons ra .nil)
        refine q _ _ _ (s2.ext.trans x2) ⟨.tup (SqT.of upd_same) (rA.mono x2.stl), fun ds' e => ?_⟩
        cases e
        refine ⟨t, _, rfl, SqT.of upd_same, rA.mono x2.stl, fun j u e h1 h2 => ?_⟩
        have hl := r1.length
        by_cases hj : j < ds.length
        · rw [List.getElem?_append_left hj] at h2
          exact fun es' he => by
            have := freshT_nil_at hz2 j e h2
            rw [he] at this
            cases this
        · rw [List.getElem?_append_right (by omega)] at h1 h2
          by_cases hj2 : j - ds.length = 0
          · rw [hj2] at h2
            rw [hl, hj2] at h1
            cases h1
            cases h2
            intro es' he
            cases he
            exact ⟨a, us', rfl, m2, x2.stl _ _ m3, m4.mono x2.stl⟩
          · obtain ⟨m, hm⟩ : ∃ m, j - ds.length = m + 1 := ⟨j - ds.length - 1, by omega⟩
            rw [hm] at h2
            cases h2
      · exact q.elim
  | un => rw [hd] at q; exact q.elim
  | fz _ => rw [hd] at q; exact q.elim
  | ln _ => rw [hd] at q; exact q.elim
  | ex _ _ _ _ => rw [hd] at q; exact q.elim
/-- x[k].append(..), x[k].clear() -/
def tApp (K : PySem.W.Frag) (i k : Nat) (t : TE) : TS := fun D σ H => ∃ u vs a ws, σ[i]? = some (some (.ref u)) ∧ SqT K H u vs ∧ vs[k]? = some (.ref a) ∧ H a = some (.lst ws) ∧ t σ H fun v H1 => H1 a = some (.lst ws) ∧ ws.length < sizeLine ∧ ∀ ws', D.nx σ (upd H1 a (.lst ws'))
def tClr (K : PySem.W.Frag) (i k : Nat) : TS := fun D σ H => ∃ t vs a ws, σ[i]? = some (some (.ref t)) ∧ SqT K H t vs ∧ vs[k]? = some (.ref a) ∧ H a = some (.lst ws) ∧ ∀ ws', D.nx σ (upd H a (.lst ws'))
def tChg (K : PySem.W.Frag) (i k : Nat) (t : TE) : Option E → TS
  | some _ => tApp K i k t
  | none => tClr K i k
theorem s_chg {i k : Nat} {o : Option E} {nm : Str} {z : Expr} (g : Gs X T P n W) (hi : X.N[i]? = some nm) (hv : visB X.env.scope nm = true) (ho : okN nm = true) (h : chgOk T n X.N X.env.scope (chgE nm k z) o = true) : PS X (.Expr z pos) (tChg X.K i k (tK X P W (kd T (o.getD .non)) (o.getD .non)) o) := by
  cases q : chgE nm k z with
  | none => rw [q] at h; cases o <;> cases h
  | some oa =>
    rw [q] at h
    obtain ⟨t, apos, cpos, h1, h2, h3⟩ := chgE_ok q
    obtain ⟨np, j, p2, sp, rfl⟩ := subK_ok h1
    have hx : PE X (.Subscript (.Name nm np) (.Constant (.int (k : Nat)) j p2) sp) (tOp (rIxT X.K) (tVar i) (tC (.int (k : Nat)))) := pe_ix ix_tup (pe_var hi (vis_of hv) (okN_d ho) (okN_c ho)) pe_int (plain_ix rfl)
    rcases h3 with ⟨a, rfl, hp, rfl⟩ | ⟨rfl, rfl⟩
    · cases o with
      | none => cases h
      | some e =>
        have he := (snd_E (P := P) e X W a g.toGd h).pe
        refine PS.imp (ps_expr (pe_bm PySem.F.plainAttrs_list PySem.F.slot_list_append PySem.F.type_list_append mt_append hx (pa_cons he pa_nil (star_cons hp)) rfl (few_one hp) h2 (star_cons hp) rfl) rfl) fun D σ H ⟨t, vs, a, ws, e1, e2, e3, e4, q⟩ => ?_
        refine ⟨_, e1, t, vs, _, _, rfl, rfl, e2, atI_nat e3, .inl ⟨rfl, ws, SqL.of e4⟩, ?_⟩
        exact tK_mono q fun v H1 m => ⟨a, ws, v, rfl, rfl, m.1, m.2.1, m.2.2 _⟩
    · cases o with
      | some e => cases h
      | none =>
        refine PS.imp (ps_expr (pe_bm0 PySem.F.plainAttrs_list PySem.F.slot_list_clear PySem.F.type_list_clear mt_clear hx rfl h2) rfl) fun D σ H ⟨t, vs, a, ws, e1, e2, e3, e4, q⟩ => ?_
        exact ⟨_, e1, t, vs, _, _, rfl, rfl, e2, atI_nat e3, .inl ⟨rfl, ws, SqL.of e4⟩, a, ws, rfl, rfl, e4, q _⟩
/-- what a lent list is when it is changed -/
theorem lease_at {He Ge H G H1 G1 H2 G2 : Hp} {ρ : En} {σ : L2.St} {i k : Nat} {d : Dat} {v : V} (s : SR X.K He Ge ρ σ H G) (x1 : Ext H G H1 G1) (f1 : FreshC X.K H G1 v d) (x2 : Ext H1 G1 H2 G2) (hk : (leaseK d k && decide (i < ρ.length)) = true) :
    ∃ t vs a ws, (σ.set i (some v))[i]? = some (some (.ref t)) ∧ SqT X.K H2 t vs ∧ vs[k]? = some (.ref a) ∧ H2 a = some (.lst ws) ∧ ws.length < sizeLine ∧ H a = none ∧ G1 a = some (.lst ws) := by
  rw [Bool.and_eq_true] at hk
  obtain ⟨hk, hk2⟩ := hk
  cases d <;> simp only [leaseK] at hk <;> try (cases hk; done)
  rename_i ds
  split at hk
  · rename_i es hes
    obtain ⟨t, vs, rfl, tq, tl, tf⟩ := f1 ds rfl
    have hkl : k < vs.length := by rw [tl.length]; exact (List.getElem?_eq_some_iff.mp hes).1
    obtain ⟨a, ws, hu, na, ga, rws⟩ := tf k _ _ (List.getElem?_eq_getElem hkl) hes es rfl
    have s13 : Same G1 H2 := x2.stl.trans x2.sub
    refine ⟨t, vs, a, ws, ?_, sqT_keep s13 tq, ?_, s13 _ _ ga, lt_line (by rw [rws.length]; exact of_decide_eq_true hk), na, ga⟩
    · exact List.getElem?_set_self (by rw [← s.er.len]; exact of_decide_eq_true hk2)
    · rw [List.getElem?_eq_getElem hkl, hu]
  · cases hk
theorem s_lease {i k : Nat} {o : Option E} {e c1 r c2 : E} {rest : Ss} {st1 st2 st3 : Stmt} {xs : List Stmt} (g : Gs X T P n W) (h : okLease T n X.N X.env.scope fr i e c1 r c2 k o st1 st2 st3 = true) (hr : PSs X xs (tS X W fr (exSs P rest))) :
    PSs X (st1 :: st2 :: st3 :: xs) (tS X W fr (exSs P (.lease i e c1 r c2 k o rest))) := by
  unfold okLease at h
  cases q1 : asg1 st1 with
  | none => rw [q1] at h; cases h
  | some p1 =>
    cases q2 : if1 st2 with
    | none => rw [q1, q2] at h; cases h
    | some p2 =>
      cases q3 : if3 st3 with
      | none => rw [q1, q2, q3] at h; cases h
      | some p3 =>
        rw [q1, q2, q3] at h
        obtain ⟨x, y⟩ := p1
        obtain ⟨z1, b1⟩ := p2
        obtain ⟨z2, u⟩ := p3
        obtain ⟨zp, ap, rfl⟩ := asg1_ok q1
        obtain ⟨ip1, rfl⟩ := if1_ok q2
        simp only [Bool.and_eq_true, decide_eq_true_eq, Bool.not_eq_true', beq_iff_eq] at h
        obtain ⟨⟨⟨⟨⟨⟨⟨⟨⟨⟨⟨⟨h1, h2⟩, h3⟩, h4⟩, h5⟩, h6⟩, h7⟩, h8⟩, h9⟩, h10⟩, rfl⟩, h12⟩, h13⟩ := h
        cases qr : ret1 b1 with
        | none => rw [qr] at h13; cases h13
        | some w =>
          rw [qr] at h13
          obtain ⟨rp, rfl⟩ := ret1_ok qr
          simp only [Bool.and_eq_true, bne_iff_ne] at h13
          obtain ⟨h13, h14⟩ := h13
          have A := s_store (pos := ap) (py := zp) g h1 h2 h5 (snd_E (P := P) e X W y g.toGd h6).pe
          rw [h7] at A
          have C1 := (snd_E (P := P) c1 X W z1 g.toGd h9).pt h8
          have R := pss_one (ps_ret (pos := rp) (stillE h14 (snd_E (P := P) r X W w g.toGd h13).pe))
          have M : ∀ up, PS X (.Expr u up) (tChg X.K i k (tK X P W (kd T (o.getD .non)) (o.getD .non)) o) := fun up => s_chg (P := P) (W := W) (pos := up) g h1 h3 h4 h12
          -- what the change comes to
          have fin : ∀ {D D' : Ends} {He Ge H G H1 G1 H3 G3 : Hp} {ρ : En} {σ : L2.St} {d : Dat} {v : V}, SR X.K He Ge ρ σ H G → Ext H G H1 G1 → FreshC X.K H G1 v d → Ext H1 G1 H3 G3 → SR X.K He Ge (ρ.set i (.fz d)) (σ.set i (some v)) H3 G3 →
              EndS X W 0 He Ge D (if (leaseK d k && decide (i < ρ.length)) = true then Out.of (ev P (o.getD .non) (ρ.set i (.fz d))) fun _ => exSs P rest (ρ.set i .un) else .bad) →
              (∀ σ' H', tS X W 0 (exSs P rest) D σ' H' → D'.nx σ' H') → tChg X.K i k (tK X P W (kd T (o.getD .non)) (o.getD .non)) o D' (σ.set i (some v)) H3 := fun {D D' He Ge H G H1 G1 H3 G3 ρ σ d v} s x1 f1 x3 s3 q hD => by
            have back : ∀ (H4 : Hp), Same H H4 → SR X.K He Ge (ρ.set i .un) (σ.set i (some v)) H4 G := fun H4 sm =>
              (s.on (⟨sm, Same.refl G, s.er.sub.trans sm, fun c q => .inl q⟩ : Ext H G H4 G)).unset i
            split at q
            · rename_i hk
              obtain ⟨t, vs, a, ws, m1, m2, m3, m4, m5, m6, m7⟩ := lease_at s x1 f1 x3 hk
              cases o with
              | none =>
                have e0 : ev P ((none : Option E).getD .non) (ρ.set i (.fz d)) = .ok .none := by simp only [Option.getD, ev]
                rw [e0] at q
                simp only [out_ok] at q
                refine ⟨t, vs, a, ws, m1, m2, m3, m4, fun ws' => hD _ _ ⟨He, Ge, G, _, back _ fun b o e => ?_, q⟩⟩
                rw [upd_ne (ne_of_none e m6)]
                exact x3.all _ _ (x1.all _ _ e)
              | some e' =>
                refine ⟨t, vs, a, ws, m1, m2, m3, m4, ?_⟩
                refine bndS s3 q fun d' v' H4 G4 x4 r4 s4 q4 => ?_
                refine ⟨x4.all _ _ m4, m5, fun ws' => hD _ _ ⟨He, Ge, G, _, back _ fun b o e => ?_, q4⟩⟩
                rw [upd_ne (ne_of_none e m6)]
                exact x4.all _ _ (x3.all _ _ (x1.all _ _ e))
            · exact q.elim
          have back : ∀ {He Ge H G : Hp} {ρ : En} {σ : L2.St} {v : V} (s : SR X.K He Ge ρ σ H G) (H4 : Hp), Same H H4 → SR X.K He Ge (ρ.set i .un) (σ.set i (some v)) H4 G := fun s H4 sm =>
            (s.on (⟨sm, Same.refl _, s.er.sub.trans sm, fun c q => .inl q⟩ : Ext _ _ H4 _)).unset i
          rcases if3_ok q3 with ⟨z, up, ip2, rfl, rfl⟩ | ⟨up, rfl, rfl⟩
          · simp only [condOk, Bool.and_eq_true, Bool.not_eq_true'] at h10
            have C2 := (snd_E (P := P) c2 X W z g.toGd h10.2).pt h10.1
            refine PSs.imp (pss_cons A (pss_cons (ps_if (pos := ip1) C1 R pss_nil) (pss_cons (ps_if (pos := ip2) C2 (pss_one (M up)) pss_nil) hr))) fun D σ H ⟨He, Ge, G, ρ, s, q⟩ => ?_
            simp only [exSs] at q
            refine bndS (j := 3) s q fun d v H1 G1 x1 r1 s1 q1 => ?_
            obtain ⟨r1, f1⟩ := r1
            refine bndST (s1.set r1 i) q1 fun b H2 G2 x2 s2 q2 => ?_
            cases b with
            | true =>
              rw [if_pos rfl]
              simp only at q2
              refine bndS s2 q2 fun d' v' H3 G3 x3 r3 s3 q3 => ?_
              exact q3 v' H3 G3 s3.ext r3
            | false =>
              rw [if_neg Bool.false_ne_true]
              simp only at q2
              refine bndST s2 q2 fun b H3 G3 x3 s3 q3 => ?_
              cases b with
              | false =>
                rw [if_neg Bool.false_ne_true]
                exact ⟨He, Ge, G, _, back s H3 (x1.all.trans (x2.all.trans x3.all)), q3⟩
              | true =>
                rw [if_pos rfl]
                simp only at q3
                exact fin s x1 f1 (x2.trans x3) s3 q3 fun σ' H' z => z
          · have hc : c2 = .bl true := by
              have h10' : tyes c2 = true := h10
              cases c2 <;> simp [tyes] at h10'
              subst h10'
              rfl
            subst hc
            refine PSs.imp (pss_cons A (pss_cons (ps_if (pos := ip1) C1 R pss_nil) (pss_cons (M up) hr))) fun D σ H ⟨He, Ge, G, ρ, s, q⟩ => ?_
            simp only [exSs] at q
            refine bndS (j := 3) s q fun d v H1 G1 x1 r1 s1 q1 => ?_
            obtain ⟨r1, f1⟩ := r1
            refine bndST (s1.set r1 i) q1 fun b H2 G2 x2 s2 q2 => ?_
            cases b with
            | true =>
              rw [if_pos rfl]
              simp only at q2
              refine bndS s2 q2 fun d' v' H3 G3 x3 r3 s3 q3 => ?_
              exact q3 v' H3 G3 s3.ext r3
            | false =>
              rw [if_neg Bool.false_ne_true]
              simp only at q2
              have et : (ev P (.bl true) (ρ.set i (.fz d)) >>= fun t => truD t) = .ok true := by simp only [ev]; rfl
              rw [et] at q2
              simp only [out_ok] at q2
              exact fin s x1 f1 x2 s2 q2 fun σ' H' z => z
/-- what the terms do not tell -/
theorem s_nope {st : Stmt} : PS X st (tS X W fr (exS P .nope)) := ⟨fun pins s σ H D I h => by
  obtain ⟨He, Ge, G, ρ, _, q⟩ := h
  simp only [exS] at q
  exact q.elim⟩
theorem pss_no {X : Cx} {st : List Stmt} : PSs X st (fun _ _ _ => False) := ⟨fun pins s σ H D I h => h.elim⟩
theorem s_tryB {c : Str} {y : Expr} {p np hp tp : Pos} {b0 : Stmt} {s : List Stmt} (g : Gs X T P n W) (hcl : T.cl = false) (hg : glB X.env.scope c = true) (ho : okN c = true) (hm : ∃ C, X.mg c = some (.ref C)) (he : okE T n X.N X.env.scope e y = true) (hk : kd T e ≠ 1) :
    PS X (.Try [.Return (some y) p] [.ExceptHandler (some (.Name c np)) none (b0 :: s) hp] [] [] tp) (tS X W 0 (exS P (.tryB e c))) := by
  obtain ⟨C, hC⟩ := hm
  have hg' : X.env.scope.names.lookup c = some .globalImplicit := of_decide_eq_true hg
  refine PS.imp (ps_try_only (tb := fun W' D σ H => tK X P W' 0 e σ H D.rt) (ts := fun _ _ _ _ _ _ => False) g.stk g.frm ⟨hg', okN_d ho, .inl hC⟩ (tk_low g hcl) (fun W' pn xe tk ps => ?_) fun a oe cls d pn _ _ => pss_no) fun D σ H ⟨He, Ge, G, ρ, s, q⟩ => ?_
  · exact PSs.imp (pss_one (ps_ret (stillE hk (snd_E e (X.tr pn xe) W' y (g.tr0 hcl tk ps).toGd he).pe))) fun D σ H q => q
  · simp only [exS] at q
    refine ⟨He, G, ρ, s.er, ?_⟩
    cases qe : ev P e ρ with
    | ok d =>
      rw [qe] at q
      exact fun x H1 G1 x1 r1 => q x H1 G1 (s.ext.trans x1) r1
    | exc c' z => rw [qe] at q; exact q.elim
    | bad => rw [qe] at q; exact q.elim
/-- statements without statements in them -/
def leaf : S → Bool
  | .ifs _ _ _ => false
  | .for_ _ _ _ _ => false
  | .whil _ _ _ _ => false
  | _ => true
theorem snd_S0 : ∀ (s : S) (st : Stmt), leaf s = true → Gs X T P n W → okS T n X.N X.env.scope fr s st = true → PS X st (tS X W fr (exS P s))
  | .set i e, st, _, g, h => by
    cases st with
    | Assign ts y pos =>
      cases ts with
      | nil => simp [okS] at h
      | cons t r =>
        cases r with
        | cons _ _ => cases t <;> exact absurd (show false = true from h) (by decide)
        | nil =>
          cases t with
          | Name nm py =>
            simp only [okS, Bool.and_eq_true, decide_eq_true_eq, bne_iff_ne] at h
            obtain ⟨⟨⟨⟨h1, h2⟩, h3⟩, h4⟩, h5⟩ := h
            exact PS.imp (s_asg g h1 h2 h3 h4) fun D σ H q => tAsg_mono (fun _ _ _ => tK_still h5) D σ H (c_set D σ H q)
          | _ => simp [okS] at h
    | _ => simp [okS] at h
  | .setO i e, st, _, g, h => by
    cases st with
    | Assign ts y pos =>
      cases ts with
      | nil => simp [okS] at h
      | cons t r =>
        cases r with
        | cons _ _ => cases t <;> exact absurd (show false = true from h) (by decide)
        | nil =>
          cases t with
          | Name nm py =>
            simp only [okS, Bool.and_eq_true, decide_eq_true_eq, beq_iff_eq] at h
            obtain ⟨⟨⟨⟨h1, h2⟩, h3⟩, h4⟩, h5⟩ := h
            have z := s_asg (P := P) (W := W) (pos := pos) g h1 h2 h3 h4
            rw [h5] at z
            exact PS.imp z c_setO
          | _ => simp [okS] at h
    | _ => simp [okS] at h
  | .tup is e, st, _, g, h => by
    cases st with
    | Assign ts y pos =>
      cases ts with
      | nil => simp [okS] at h
      | cons t r =>
        cases r with
        | cons _ _ => exact absurd (show false = true from h) (by decide)
        | nil =>
          simp only [okS, Bool.and_eq_true, bne_iff_ne, Bool.not_eq_true'] at h
          obtain ⟨⟨⟨⟨h1, h2⟩, h3⟩, h4⟩, h5⟩ := h
          exact s_tupA g h1 h2 h3 h5 (snd_E e X W y g.toGd h4).pe
    | _ => simp [okS] at h
  | .app i e, st, _, g, h => by
    cases st with
    | Expr y pos =>
      cases y with
      | Call f xs kws cpos =>
        cases f with
        | Attribute o f apos =>
          cases o with
          | Name nm np =>
            cases xs with
            | nil => simp [okS] at h
            | cons y r =>
              cases r with
              | cons _ _ => simp [okS] at h
              | nil =>
                cases kws with
                | cons _ _ => simp [okS] at h
                | nil =>
                  simp only [okS, Bool.and_eq_true, decide_eq_true_eq, bne_iff_ne] at h
                  obtain ⟨⟨⟨⟨⟨⟨⟨h1, h2⟩, h3⟩, rfl⟩, h5⟩, h6⟩, h7⟩, h8⟩ := h
                  exact s_app g h1 h2 h3 h5 h6 h8 (snd_E e X W y g.toGd h7).pe
          | _ => simp [okS] at h
        | _ => simp [okS] at h
      | _ => simp [okS] at h
    | _ => simp [okS] at h
  | .rev i, st, _, g, h => by
    cases st with
    | Expr y pos =>
      cases y with
      | Call f xs kws cpos =>
        cases f with
        | Attribute o f apos =>
          cases o with
          | Name nm np =>
            cases xs with
            | cons _ _ => simp [okS] at h
            | nil =>
              cases kws with
              | cons _ _ => simp [okS] at h
              | nil =>
                simp only [okS, Bool.and_eq_true, decide_eq_true_eq] at h
                obtain ⟨⟨⟨⟨h1, h2⟩, h3⟩, rfl⟩, h5⟩ := h
                exact s_rev g h1 h2 h3 h5
          | _ => simp [okS] at h
        | _ => simp [okS] at h
      | _ => simp [okS] at h
    | _ => simp [okS] at h
  | .ext i e, st, _, g, h => by
    cases st with
    | Expr y pos =>
      cases y with
      | Call f xs kws cpos =>
        cases f with
        | Attribute o f apos =>
          cases o with
          | Name nm np =>
            cases xs with
            | nil => simp [okS] at h
            | cons y r =>
              cases r with
              | cons _ _ => simp [okS] at h
              | nil =>
                cases kws with
                | cons _ _ => simp [okS] at h
                | nil =>
                  simp only [okS, Bool.and_eq_true, decide_eq_true_eq] at h
                  obtain ⟨⟨⟨⟨⟨⟨⟨h1, h2⟩, h3⟩, rfl⟩, h5⟩, h6⟩, h7⟩, h8⟩ := h
                  have z := (snd_E (P := P) e X W y g.toGd h7).pe
                  rw [eq_of_beq h8] at z
                  exact s_ext g h1 h2 h3 h5 h6 z
          | _ => simp [okS] at h
        | _ => simp [okS] at h
      | _ => simp [okS] at h
    | _ => simp [okS] at h
  | .ret e, st, _, g, h => by
    cases st with
    | Return y pos =>
      cases y with
      | none => simp [okS] at h
      | some y =>
        simp only [okS, Bool.and_eq_true, Bool.or_eq_true, beq_iff_eq, bne_iff_ne] at h
        obtain ⟨⟨hf, h2⟩, h3⟩ := h
        refine PS.imp (ps_ret (stillE h3 (snd_E e X W y g.toGd h2).pe)) fun D σ H ⟨He, Ge, G, ρ, s, h⟩ => ?_
        simp only [exS] at h
        rcases hf with hf | ⟨hf, hn⟩
        · refine bndS s h fun d v H1 G1 x1 r1 s1 q1 => ?_
          refine q1 v H1 G1 s1.ext ?_
          rw [hf]
          exact r1
        · cases e <;> try (cases hn; done)
          simp only [ev, out_ok] at h
          refine ⟨He, G, ρ, s.er, ?_⟩
          simp only [ev]
          intro v H' G' x r
          refine h v H' G' (s.ext.trans x) ?_
          rw [hf]
          exact ⟨r, fun ds e => by cases e⟩
    | _ => simp [okS] at h
  | .retO e, st, _, g, h => by
    cases st with
    | Return y pos =>
      cases y with
      | none => simp [okS] at h
      | some y =>
        simp only [okS, Bool.and_eq_true, beq_iff_eq] at h
        obtain ⟨⟨hf, h2⟩, h3⟩ := h
        have z := (snd_E (P := P) e X W y g.toGd h2).pe
        rw [h3] at z
        refine PS.imp (ps_ret z) fun D σ H ⟨He, Ge, G, ρ, s, h⟩ => ?_
        simp only [exS] at h
        refine bndS s h fun d v H1 G1 x1 r1 s1 q1 => ?_
        refine q1 v H1 G1 s1.ext ?_
        rw [hf]
        exact RK.on (k := 2) s.ext.all r1
    | _ => simp [okS] at h
  | .retV i, st, _, g, h => by
    cases st with
    | Return y pos =>
      cases y with
      | none => simp [okS] at h
      | some y =>
        cases y with
        | Name nm np =>
          simp only [okS, Bool.and_eq_true, decide_eq_true_eq, beq_iff_eq] at h
          obtain ⟨⟨⟨hf, h1⟩, h2⟩, h3⟩ := h
          refine PS.imp (ps_ret (pe_var h1 (vis_of h2) (okN_d h3) (okN_c h3))) fun D σ H ⟨He, Ge, G, ρ, s, h⟩ => ?_
          simp only [exS] at h
          cases hd : getS ρ i with
          | ow ds =>
            rw [hd] at h
            have e0 := getS_some hd nofun
            obtain ⟨o, k1, a, vs, rfl, k2, ga, rr⟩ := s.er.at_ i _ e0
            refine ⟨_, k1, h _ H G s.ext ?_⟩
            rw [hf]
            exact ⟨a, vs, ds, rfl, rfl, s.own i ds a e0 k1, ga, k2, rr⟩
          | un => rw [hd] at h; exact h.elim
          | fz _ => rw [hd] at h; exact h.elim
          | ln _ => rw [hd] at h; exact h.elim
          | ex _ _ _ _ => rw [hd] at h; exact h.elim
        | _ => simp [okS] at h
    | _ => simp [okS] at h
  | .retF fl es, st, _, g, h => by
    cases st with
    | Return y pos =>
      cases y with
      | none => simp [okS] at h
      | some y =>
        cases y with
        | Tuple xs k p =>
          simp only [okS, Bool.and_eq_true, beq_iff_eq, decide_eq_true_eq] at h
          obtain ⟨⟨rfl, rfl⟩, h2⟩ := h
          exact s_retF g h2
        | _ => simp [okS] at h
    | _ => simp [okS] at h
  | .retL es i, st, _, g, h => by
    cases st with
    | Return y pos =>
      cases y with
      | none => simp [okS] at h
      | some y =>
        cases y with
        | Tuple xs k p =>
          simp only [okS, Bool.and_eq_true, beq_iff_eq] at h
          obtain ⟨rfl, h⟩ := h
          cases hn : X.N[i]? with
          | none => rw [hn] at h; cases h
          | some x =>
            rw [hn] at h
            simp only [Bool.and_eq_true] at h
            exact s_retL g hn h.1.1 h.1.2 h.2
        | _ => simp [okS] at h
    | _ => simp [okS] at h
  | .retC e, st, _, g, h => by
    cases st with
    | Return y pos =>
      cases y with
      | none => simp [okS] at h
      | some y =>
        simp only [okS, Bool.and_eq_true, beq_iff_eq] at h
        obtain ⟨⟨rfl, h2⟩, h3⟩ := h
        have z := (snd_E (P := P) e X W y g.toGd h2).pe
        rw [h3] at z
        refine PS.imp (ps_ret z) fun D σ H ⟨He, Ge, G, ρ, s, h⟩ => ?_
        simp only [exS] at h
        refine bndS s h fun d v H1 G1 x1 r1 s1 q1 => ?_
        exact q1 v H1 G1 s1.ext (RK.on (k := 3) s.ext.all r1)
    | _ => simp [okS] at h
  | .retN, st, _, g, h => by
    cases st with
    | Return y pos =>
      cases y with
      | none =>
        simp only [okS, beq_iff_eq] at h
        refine PS.imp ps_retN fun D σ H ⟨He, Ge, G, ρ, s, q⟩ => ?_
        simp only [exS] at q
        refine q .non H G s.ext ?_
        rw [h]
        exact Rep.non
      | some y => cases y <;> simp [okS] at h
    | _ => simp [okS] at h
  | .expr e, st, _, g, h => by
    cases st with
    | Expr y pos =>
      simp only [okS, Bool.and_eq_true, Bool.not_eq_true'] at h
      refine PS.imp (ps_expr (snd_E e X W y g.toGd h.2).pe (swaps_plain h.1)) fun D σ H ⟨He, Ge, G, ρ, s, h⟩ => ?_
      simp only [exS] at h
      refine bndS s h fun d v H1 G1 x1 r1 s1 q1 => ?_
      exact q1 σ H1 G1 s1
    | _ => simp [okS] at h
  | .pass, st, _, g, h => by
    have fin : ∀ D σ H, tS X W fr (exS P .pass) D σ H → tNext D σ H := fun D σ H ⟨He, Ge, G, ρ, s, q⟩ => by
      simp only [exS] at q
      exact q σ H G s
    cases st with
    | Pass pos => exact PS.imp ps_pass fin
    | Expr y pos =>
      cases y with
      | Constant c k p =>
        cases c with
        | str z => exact PS.imp ps_doc fin
        | _ => simp [okS] at h
      | _ => simp [okS] at h
    | _ => simp [okS] at h
  | .cont, st, _, g, h => by
    cases st with
    | Continue pos =>
      exact PS.imp ps_continue fun D σ H ⟨He, Ge, G, ρ, s, q⟩ => by
        simp only [exS] at q
        exact q σ H G s
    | _ => simp [okS] at h
  | .nope, st, _, g, h => s_nope
  | .tryB e c, st, _, g, h => by
    simp only [okS] at h
    cases qt : tryB1 c st with
    | none => rw [qt] at h; cases h
    | some y =>
      rw [qt] at h
      obtain ⟨p, np, b0, s, hp, tp, rfl⟩ := tryB1_ok qt
      simp only [Bool.and_eq_true, bne_iff_ne, beq_iff_eq, Bool.not_eq_true'] at h
      obtain ⟨⟨⟨⟨⟨⟨rfl, h1⟩, h2⟩, h3⟩, hcl⟩, h4⟩, h5⟩ := h
      have hC : ∃ C, X.mg c = some (.ref C) := by
        obtain ⟨C, h, _⟩ := g.exs _ (List.contains_iff_mem.mp h3)
        exact ⟨C, h⟩
      exact s_tryB g hcl h1 h2 hC h4 h5
  | .raisX c e, st, _, g, h => by
    simp only [okS] at h
    cases qr : rais2 st with
    | none => rw [qr] at h; cases h
    | some p =>
      obtain ⟨c', y⟩ := p
      rw [qr] at h
      obtain ⟨np, cp, pos, rfl⟩ := rais2_ok qr
      simp only [Bool.and_eq_true, decide_eq_true_eq, Bool.not_eq_true', bne_iff_ne] at h
      obtain ⟨⟨⟨⟨⟨⟨⟨⟨rfl, h1⟩, h2⟩, h3⟩, h4⟩, h5⟩, h6⟩, h7⟩, h8⟩ := h
      exact s_raisX g h1 h2 h3 h4 h5 h6 h8 (snd_E e X W y g.toGd h7).pe
  | .tryX e c d i, st, _, g, h => by simp [okS] at h
  | .tryR e c i j ns, st, _, g, h => s_tryR g h
  | .rais c, st, _, g, h => by
    simp only [okS, Bool.and_eq_true] at h
    obtain ⟨⟨⟨h1, h2⟩, h3⟩, h4⟩ := h
    obtain ⟨np, m, k, p2, cp, pos, rfl⟩ := rais1_ok h1
    exact s_rais g h2 h3 h4
  | .tryI e c i j n1 n2, st, _, g, h => by
    simp only [okS] at h
    cases qt : tryA c st with
    | none => rw [qt] at h; cases h
    | some p =>
      obtain ⟨b, x, s⟩ := p
      rw [qt] at h
      obtain ⟨np, hp, tp, rfl⟩ := tryA_ok qt
      simp only at h
      cases qb : expr1 b with
      | none => rw [qb] at h; cases h
      | some y =>
        cases qs : two1 s with
        | none => rw [qb, qs] at h; cases h
        | some v =>
          obtain ⟨z, xs, ys⟩ := v
          rw [qb, qs] at h
          obtain ⟨yp, rfl⟩ := expr1_ok qb
          obtain ⟨zp, k1, p1, a1, zp', zq, k2, p2, p3, a2, rfl⟩ := two1_ok qs
          simp only [Bool.and_eq_true, decide_eq_true_eq, Bool.not_eq_true'] at h
          obtain ⟨⟨⟨⟨⟨⟨⟨⟨⟨⟨⟨⟨⟨⟨⟨⟨h1, h2⟩, h3⟩, hcl⟩, h4⟩, h5⟩, h6⟩, h7⟩, h8⟩, h9⟩, h10⟩, h11⟩, h12⟩, h13⟩, h14⟩, h15⟩, h16⟩ := h
          have hC : ∃ C, X.mg c = some (.ref C) := by
            obtain ⟨C, h, _⟩ := g.exs _ (List.contains_iff_mem.mp h3)
            exact ⟨C, h⟩
          exact s_tryI g hcl h1 h2 hC h4 h5 h6 h7 h8 h9 h10 h11 h12 h13 h14 h15 h16
  | .tryE i e c j hd, st, _, g, h => by
    simp only [okS] at h
    cases qt : try1 c st with
    | none => rw [qt] at h; cases h
    | some p =>
      obtain ⟨b, z, w⟩ := p
      rw [qt] at h
      obtain ⟨np, zp, ap, hp, tp, rfl⟩ := try1_ok qt
      simp only [Bool.and_eq_true, decide_eq_true_eq, Bool.not_eq_true'] at h
      obtain ⟨⟨⟨⟨⟨⟨⟨h2, h3⟩, h6⟩, h7⟩, h8⟩, h9⟩, hcl⟩, hb⟩ := h
      have hC : ∃ C, X.mg c = some (.ref C) := by
        obtain ⟨C, h, _⟩ := g.exs _ (List.contains_iff_mem.mp h9)
        exact ⟨C, h⟩
      cases i with
      | none =>
        simp only at hb
        cases qb : expr1 b with
        | none => rw [qb] at hb; cases hb
        | some y =>
          rw [qb] at hb
          obtain ⟨p, rfl⟩ := expr1_ok qb
          simp only [Bool.and_eq_true, Bool.not_eq_true'] at hb
          refine s_tryE (k := kd T e) (Qk := fun v σ H1 D => D.nx σ H1) g hcl h2 h3 h6 h7 h8 hC (fun W' pn xe g' => ?_) fun D σ He Ge H1 G1 ρ H x d r s q => q σ H1 G1 s
          exact PSs.imp (pss_one (ps_expr (snd_E e (X.tr pn xe) W' y g'.toGd hb.2).pe (swaps_plain hb.1))) fun D σ H q => q
      | some i =>
        simp only at hb
        cases qb : asgL b with
        | none => rw [qb] at hb; cases hb
        | some uy =>
          obtain ⟨u, y⟩ := uy
          rw [qb] at hb
          obtain ⟨up, p, rfl⟩ := asgL_ok qb
          simp only [Bool.and_eq_true, Bool.not_eq_true', bne_iff_ne, decide_eq_true_eq] at hb
          obtain ⟨⟨⟨⟨h4, h5⟩, h51⟩, h52⟩, h53⟩ := hb
          refine s_tryE (k := 0) (Qk := fun v σ H1 D => D.nx (σ.set i (some v)) H1) g hcl h2 h3 h6 h7 h8 hC (fun W' pn xe g' => ?_) fun D σ He Ge H1 G1 ρ H x d r s q => q _ H1 G1 (s.set r i)
          exact PSs.imp (pss_one (ps_set g'.nd h52 (loc_sto h53) (stillE h51 (snd_E e (X.tr pn xe) W' y g'.toGd h5).pe) (swaps_plain h4) (.inl (g'.fnT u)))) fun D σ H q => q
  | .ifs _ _ _, _, hl, _, _ => by cases hl
  | .for_ _ _ _ _, _, hl, _, _ => by cases hl
  | .whil _ _ _ _, _, hl, _, _ => by cases hl
mutual
theorem snd_S : ∀ (s : S) (st : Stmt), Gs X T P n W → okS T n X.N X.env.scope fr s st = true → PS X st (tS X W fr (exS P s))
  | .ifs c a b, st, g, h => by
    cases st with
    | If x p q pos =>
      simp only [okS, Bool.and_eq_true, Bool.not_eq_true'] at h
      obtain ⟨⟨⟨h1, h2⟩, h3⟩, h4⟩ := h
      refine PS.imp (ps_if ((snd_E c X W x g.toGd h2).pt h1) (snd_Ss a p g h3) (snd_Ss b q g h4)) fun D σ H ⟨He, Ge, G, ρ, s, h⟩ => ?_
      simp only [exS] at h
      refine bndST s h fun r H1 G1 x1 s1 q1 => ?_
      cases r with
      | true => rw [if_pos rfl]; exact ⟨He, Ge, G1, ρ, s1, q1⟩
      | false => rw [if_neg Bool.false_ne_true]; exact ⟨He, Ge, G1, ρ, s1, q1⟩
    | _ => simp [okS] at h
  | .for_ tmp tg it body, st, g, h => by
    cases st with
    | For t x b els pos =>
      cases els with
      | nil =>
        simp only [okS, Bool.and_eq_true] at h
        obtain ⟨⟨⟨⟨h0, h1⟩, h2⟩, h3⟩, h4⟩ := h
        rw [Bool.not_eq_true'] at h0
        exact s_for g h0 h1 h2 (snd_I it X W t x g.toGd h3) (snd_Ss body b g h4)
      | cons _ _ => simp [okS] at h
    | _ => simp [okS] at h
  | .whil fuel tmp c body, st, g, h => by
    cases st with
    | While x b els pos =>
      cases els with
      | nil =>
        simp only [okS, Bool.and_eq_true, Bool.not_eq_true'] at h
        obtain ⟨⟨h1, h2⟩, h3⟩ := h
        exact s_whil g ((snd_E c X W x g.toGd h2).pt h1) (snd_Ss body b g h3)
      | cons _ _ => simp [okS] at h
    | _ => simp [okS] at h
  | .set i e, st, g, h => snd_S0 (.set i e) st rfl g h
  | .setO i e, st, g, h => snd_S0 (.setO i e) st rfl g h
  | .tup i e, st, g, h => snd_S0 (.tup i e) st rfl g h
  | .app i e, st, g, h => snd_S0 (.app i e) st rfl g h
  | .rev i, st, g, h => snd_S0 (.rev i) st rfl g h
  | .ext i e, st, g, h => snd_S0 (.ext i e) st rfl g h
  | .ret e, st, g, h => snd_S0 (.ret e) st rfl g h
  | .retO e, st, g, h => snd_S0 (.retO e) st rfl g h
  | .retV i, st, g, h => snd_S0 (.retV i) st rfl g h
  | .retN, st, g, h => snd_S0 (.retN) st rfl g h
  | .expr e, st, g, h => snd_S0 (.expr e) st rfl g h
  | .pass, st, g, h => snd_S0 (.pass) st rfl g h
  | .cont, st, g, h => snd_S0 (.cont) st rfl g h
  | .tryI e c i j n1 n2, st, g, h => snd_S0 (.tryI e c i j n1 n2) st rfl g h
  | .retF fl es, st, g, h => snd_S0 (.retF fl es) st rfl g h
  | .retL es i, st, g, h => snd_S0 (.retL es i) st rfl g h
  | .retC e, st, g, h => snd_S0 (.retC e) st rfl g h
  | .rais c, st, g, h => snd_S0 (.rais c) st rfl g h
  | .nope, st, g, h => snd_S0 .nope st rfl g h
  | .raisX c e, st, g, h => snd_S0 (.raisX c e) st rfl g h
  | .tryX e c d i, st, g, h => snd_S0 (.tryX e c d i) st rfl g h
  | .tryR e c i j ns, st, g, h => snd_S0 (.tryR e c i j ns) st rfl g h
  | .tryB e c, st, g, h => snd_S0 (.tryB e c) st rfl g h
  | .tryE i e c j hd, st, g, h => snd_S0 (.tryE i e c j hd) st rfl g h
theorem snd_Ss : ∀ (s : Ss) (st : List Stmt), Gs X T P n W → okSs T n X.N X.env.scope fr s st = true → PSs X st (tS X W fr (exSs P s))
  | .nil, st, g, h => by
    cases st with
    | nil =>
      exact PSs.imp pss_nil fun D σ H ⟨He, Ge, G, ρ, s, q⟩ => by
        simp only [exSs] at q
        exact q σ H G s
    | cons _ _ => simp [okSs] at h
  | .cons s r, st, g, h => by
    cases st with
    | nil => simp [okSs] at h
    | cons x xs =>
      simp only [okSs, Bool.and_eq_true] at h
      refine PSs.imp (pss_cons (snd_S s x g h.1) (snd_Ss r xs g h.2)) fun D σ H ⟨He, Ge, G, ρ, z, q⟩ => ?_
      simp only [exSs] at q
      refine ⟨He, Ge, G, ρ, z, ?_⟩
      cases qo : exS P s ρ with
      | nx ρ5 => rw [qo] at q; exact fun σ6 H6 G6 s6 => ⟨He, Ge, G6, ρ5, s6, q⟩
      | ct ρ5 => rw [qo] at q; exact q
      | ret d => rw [qo] at q; exact q
      | exc c z => rw [qo] at q; exact q
      | bad => rw [qo] at q; exact q
  | .frz i r, st, g, h => by
    simp only [okSs] at h
    refine PSs.imp (snd_Ss r st g h) fun D σ H ⟨He, Ge, G, ρ, z, q⟩ => ?_
    simp only [exSs] at q
    cases hd : getS ρ i with
    | ow ds =>
      rw [hd] at q
      obtain ⟨G1, _, _, s1, _⟩ := z.frz (getS_some hd nofun)
      exact ⟨He, Ge, G1, _, s1, q⟩
    | un => rw [hd] at q; exact q.elim
    | fz _ => rw [hd] at q; exact q.elim
    | ln _ => rw [hd] at q; exact q.elim
    | ex _ _ _ _ => rw [hd] at q; exact q.elim
  | .lease i e c1 r c2 k o rest, st, g, h => by
    cases st with
    | nil => simp [okSs] at h
    | cons x1 st =>
      cases st with
      | nil => simp [okSs] at h
      | cons x2 st =>
        cases st with
        | nil => simp [okSs] at h
        | cons x3 xs =>
          simp only [okSs, Bool.and_eq_true] at h
          exact s_lease g h.1 (snd_Ss rest xs g h.2)
end
end
end NW
end

section
set_option maxHeartbeats 8000000
/-! A def as a whole keeps the promise that its terms give. -/
namespace NW
open PySem PySem.Spec PyProof.Rows L2
theorem ins_len : ∀ (ws : List Bool) (ds : List Dat), (ins ws ds).length = ds.length
  | [], [] => rfl
  | true :: _, [] => rfl
  | false :: _, [] => rfl
  | [], d :: ds => by simp [ins, ins_len [] ds]
  | false :: ws, d :: ds => by simp [ins, ins_len ws ds]
  | true :: ws, d :: ds => by cases d <;> simp [ins, ins_len ws ds]
theorem ins_own : ∀ (ws : List Bool) (ds : List Dat) (i : Nat) (es : List Dat), (ins ws ds)[i]? ≠ some (.ow es)
  | [], [], i, es => by simp [ins]
  | true :: _, [], i, es => by simp [ins]
  | false :: _, [], i, es => by simp [ins]
  | [], d :: ds, i, es => by
    cases i with
    | zero => simp [ins]
    | succ i => simpa [ins] using ins_own [] ds i es
  | false :: ws, d :: ds, i, es => by
    cases i with
    | zero => simp [ins]
    | succ i => simpa [ins] using ins_own ws ds i es
  | true :: ws, d :: ds, i, es => by
    cases d <;> cases i with
    | zero => simp [ins]
    | succ i => simpa [ins] using ins_own ws ds i es
theorem RW.still_ {K : PySem.W.Frag} {H G : Hp} {v : V} {d : Dat} (r : RW K H G v d) (h : ∀ ds, d ≠ .list ds) : Rep K G v d := by
  cases r with
  | st r => exact r
  | wk _ _ => exact absurd rfl (h _)
theorem RW.list_ {K : PySem.W.Frag} {H G : Hp} (g : Same G H) {v : V} {ds : List Dat} (r : RW K H G v (.list ds)) : ∃ a vs, v = .ref a ∧ SqL K H a vs ∧ Reps K G vs ds := by
  cases r with
  | st r =>
    cases r with
    | lst q rr => exact ⟨_, _, rfl, sqL_keep g q, rr⟩
  | wk q rr => exact ⟨_, _, rfl, q, rr⟩
theorem ins_at {K : PySem.W.Frag} {H G : Hp} (g : Same G H) : ∀ (ws : List Bool) (vs : List V) (ds : List Dat), RAs K H G ws vs ds → ∀ (i : Nat) (s : Sl), (ins ws ds)[i]? = some s → ∃ v, vs[i]? = some v ∧ SlR K H H G s (some v)
  | ws, [], ds, r, i, s, e => by
    cases r with
    | nil => cases ws with
      | nil => simp [ins] at e
      | cons b ws => cases b <;> simp [ins] at e
  | ws, v :: vs, _, .cons (d := d) (ds := ds) r t, i, s, e => by
    match ws, r, t, e with
    | [], r, t, e =>
      cases i with
      | zero => simp [ins] at e; subst e; exact ⟨v, rfl, v, rfl, r⟩
      | succ i => simp [ins] at e; exact ins_at g [] vs ds t i s e
    | false :: ws, r, t, e =>
      cases i with
      | zero => simp [ins] at e; subst e; exact ⟨v, rfl, v, rfl, r⟩
      | succ i => simp [ins] at e; exact ins_at g ws vs ds t i s e
    | true :: ws, r, t, e =>
      have r' : RW K H G v d := r
      cases d with
      | list xs =>
        cases i with
        | zero =>
          simp [ins] at e; subst e
          obtain ⟨a, us, rfl, q, rr⟩ := r'.list_ g
          exact ⟨_, rfl, a, us, rfl, q, rr⟩
        | succ i => simp [ins] at e; exact ins_at g ws vs ds t i s e
      | _ =>
        cases i with
        | zero => simp [ins] at e; subst e; exact ⟨v, rfl, v, rfl, r'.still_ nofun⟩
        | succ i => simp [ins] at e; exact ins_at g ws vs ds t i s e
theorem RAs.len {K : PySem.W.Frag} {H G : Hp} {ws : List Bool} {vs : List V} {ds : List Dat} (r : RAs K H G ws vs ds) : vs.length = ds.length := by
  induction r with
  | nil => rfl
  | cons _ _ ih => simp [ih]
/-- the state at the entry -/
theorem SR.start {K : PySem.W.Frag} {H G : Hp} {ws : List Bool} {vs : List V} {ds : List Dat} {N : List Str} (g : Same G H) (r : RAs K H G ws vs ds) (hn : vs.length ≤ N.length) :
    SR K H G (ins ws ds ++ List.replicate (N.length - ds.length) .un) (L2.start N vs) H G := by
  have hl := r.len
  have il := ins_len ws ds
  refine ⟨Ext.refl g, ⟨Same.refl H, g, by simp [L2.start, il, hl], fun i s e => ?_⟩, fun i es a e1 e2 => ?_, fun i j es fs a hij e1 e2 e3 e4 => ?_⟩
  · by_cases hi : i < ds.length
    · rw [List.getElem?_append_left (by rw [il]; exact hi)] at e
      obtain ⟨v, h1, h2⟩ := ins_at g ws vs ds r i s e
      refine ⟨some v, ?_, h2⟩
      unfold L2.start
      rw [List.getElem?_append_left (by rw [List.length_map, hl]; exact hi), List.getElem?_map, h1]
      rfl
    · rw [List.getElem?_append_right (by rw [il]; omega), List.getElem?_replicate] at e
      split at e
      · cases e
        rename_i hx
        refine ⟨none, ?_, trivial⟩
        unfold L2.start
        rw [List.getElem?_append_right (by rw [List.length_map, hl]; omega), List.getElem?_replicate, if_pos]
        rw [List.length_map, hl]
        rw [il] at hx
        exact hx
      · cases e
  all_goals
    exfalso
    by_cases hi : i < ds.length
    · rw [List.getElem?_append_left (by rw [il]; exact hi)] at e1
      exact ins_own ws ds i es e1
    · rw [List.getElem?_append_right (by rw [il]; omega), List.getElem?_replicate] at e1
      split at e1 <;> cases e1
theorem FnOk.up {P : Program} {w : World} {K : PySem.W.Frag} {mg : Str → Option Value} {base : Heap} {C : CXT} {j k : Nat} {f : Addr} {fd : FuncData} {ps : List Str} {sp : Sp} (h : FnOk P w K mg base C j f fd ps sp) (hj : j ≤ k) : FnOk P w K mg base C k f fd ps sp :=
  ⟨h.len, fun A outer s H args us vs Q E r => h.run A outer s H args us vs Q E ⟨r.hd, by have := r.dp; omega, by have := r.un; omega⟩⟩
/-- what the outside knows -/
structure Gw (P : Program) (w : World) (K : PySem.W.Frag) (mg : Str → Option Value) (base : Heap) (T : Tx) (Pr : Pg) (n : Nat) : Prop where
  fns : ∀ k sg, k < n → T.fns[k]? = some sg → FnX P w K mg base n sg (Pr.F k)
  cons : ∀ k x, T.cons[k]? = some x → ∃ u v, mg x = some u ∧ RelV v u ∧ ∀ G, Rep K G v (Pr.C k)
  blt : ∀ b ∈ bltN, mg b = none
  exs : ∀ c ∈ T.exs, ∃ C, mg c = some (.ref C) ∧ ExK K C
  exm : ∀ c c' b, Pr.X c c' = some b → ∃ C C', mg c = some (.ref C) ∧ mg c' = some (.ref C') ∧ PySem.W.exmOne K (.ref C) (.ref C') = some b
  iss : ∀ c c' b, Pr.I c c' = some b → IssK K mg c c' b
  exr : ∀ c ∈ T.exr, ∃ C, mg c = some (.ref C) ∧ RwK P w K mg base C
theorem fn_ok {P : Program} {w : World} {K : PySem.W.Frag} {mg : Str → Option Value} {base : Heap} {x qual : Str} {params : Arguments} {body : List Stmt} {scope : Scope} {dvs : List V} {kws : List (Str × V)} {f : Addr} {fd : FuncData} {N ps : List Str} {T : Tx} {Pr : Pg} {n : Nat} {sg : Sig} {F : List Dat → Res Dat} {ir : Ss}
    (D : FunD K x qual params body scope dvs kws f fd) (hs : FnScope N ps scope) (hp : ps.length = sg.ln.length) (hn : ps.length ≤ N.length) (hk : okSs (T.at_ sg.cl) n N scope sg.fr ir body = true)
    (hF : ∀ ds, ds.length = sg.ln.length → F ds ≠ .bad → runF Pr N.length sg.ln (sg.fr == 2) ir ds = F ds) (g : Gw P w K mg base T Pr n) :
    FnOk P w K mg base (CXB sg.cl P w) (n + 1) f fd ps (spD K mg sg F) := by
  refine D.ok hs (fun vs H Q E ⟨G, ds, h1, h2, h3, h4⟩ => by rw [h2, hp]) (fun cdv A outer s H vs Q E hr ⟨G, ds, h1, h2, h3, h4⟩ => ?_)
  have tk : ∀ b : Bool, TkB b (cxOf (CXB b P w) P w K mg base N qual scope f cdv A outer s H E) (fun cls d _ H => E cls d H) := fun b => by
    cases b
    · exact takes_of rfl rfl rfl rfl
    · exact L2N.takes_of rfl rfl rfl rfl
  have gs : Gs (cxOf (CXB sg.cl P w) P w K mg base N qual scope f cdv A outer s H E) (T.at_ sg.cl) Pr n (fun cls d _ H => E cls d H) :=
    ⟨⟨rfl, hs.nd, hr, tk sg.cl, g.fns, g.cons, g.blt, g.exs, g.exm, g.iss, g.exr⟩, passes_of rfl, fun _ => rfl, hs.kind, rfl, rfl⟩
  refine ⟨tS _ _ sg.fr (exSs Pr ir), snd_Ss ir body gs hk, H, G, G, _, SR.start h1 h3 (by rw [h2, ← hp]; exact hn), ?_⟩
  have hl : ds.length = sg.ln.length := by rw [← h3.len]; exact h2
  have e : runF Pr N.length sg.ln (sg.fr == 2) ir ds = F ds := hF ds hl (fun z => by rw [z] at h4; exact h4)
  rw [← e] at h4
  unfold runF at h4
  cases q : exSs Pr ir (ins sg.ln ds ++ List.replicate (N.length - ds.length) .un) with
  | nx ρ =>
    rw [q] at h4
    match hf : sg.fr, h4 with
    | 2, h4 => exact h4.elim
    | 0, h4 => exact fun σ H' G' s => h4 .non H' G' s.ext Rep.non
    | 1, h4 => exact fun σ H' G' s => h4 .non H' G' s.ext (.st Rep.non)
    | k + 3, h4 =>
      have hb : (k + 3 == 2) = false := rfl
      rw [hb] at h4
      exact fun σ H' G' s => h4 .non H' G' s.ext ⟨Rep.non, fun ds e => by cases e⟩
  | ct ρ => rw [q] at h4; exact h4.elim
  | ret d => rw [q] at h4; exact fun v H' G' x r => h4 v H' G' x r
  | exc c z => rw [q] at h4; exact fun cls dx σ H' G' x r => h4 cls dx H' G' x r
  | bad => rw [q] at h4; exact h4.elim
def _root_.NW.Pg.add (P : Pg) (n : Nat) (F : List Dat → Res Dat) : Pg := ⟨fun k => if k = n then F else P.F k, P.C, P.X, P.I⟩
theorem reps_ras {K : PySem.W.Frag} {H G : Hp} : ∀ {us : List V} {es : List Dat}, Reps K G us es → RAs K H G (List.replicate us.length false) us es
  | [], _, .nil => .nil
  | _ :: _, _, .cons r t => .cons (by simpa [List.replicate] using r) (reps_ras t)
theorem ras_lastly {K : PySem.W.Frag} {H G : Hp} : ∀ {ws : List Bool} {vs : List V} {ds : List Dat} {us : List V} {es : List Dat}, RAs K H G ws vs ds → vs.length = ws.length → Reps K G us es → RAs K H G (ws ++ List.replicate us.length false) (vs ++ us) (ds ++ es)
  | [], _, _, us, es, .nil, _, r => by simpa using reps_ras (H := H) r
  | _ :: _, _, _, _, _, .nil, h, _ => by simp at h
  | [], _, _, _, _, .cons _ _, h, _ => by simp at h
  | w :: ws, _, _, us, es, .cons h0 t, h, r => .cons h0 (ras_lastly t (by simpa using h) r)
theorem FnX.up {P : Program} {w : World} {K : PySem.W.Frag} {mg : Str → Option Value} {base : Heap} {n : Nat} {sg : Sig} {F : List Dat → Res Dat} (h : FnX P w K mg base n sg F) : FnX P w K mg base (n + 1) sg F := by
  unfold FnX at h ⊢
  cases q : sg.kw with
  | none =>
    rw [q] at h
    obtain ⟨f', fd', ps', ds', dvs', sp', h1, h2, h3, h4, h5, h6⟩ := h
    exact ⟨f', fd', ps', ds', dvs', sp', h1, h2, FnOk.up h3 (Nat.le_succ n), h4, h5, h6⟩
  | some v =>
    rw [q] at h
    obtain ⟨f', fd', ps', g', gV', sp', h1, h2, h3, h4, h5, h6⟩ := h
    exact ⟨f', fd', ps', g', gV', sp', h1, h2, FnOk.up h3 (Nat.le_succ n), h4, h5, h6⟩
theorem Gw.add {P : Program} {w : World} {K : PySem.W.Frag} {mg : Str → Option Value} {base : Heap} {T : Tx} {Pr : Pg} {n : Nat} {sg : Sig} {F : List Dat → Res Dat} (g : Gw P w K mg base T Pr n) (hT : T.fns[n]? = some sg) (h : FnX P w K mg base (n + 1) sg F) : Gw P w K mg base T (Pr.add n F) (n + 1) := by
  refine ⟨fun k sg' hk' hs' => ?_, fun k x h => g.cons k x h, g.blt, g.exs, g.exm, g.iss, g.exr⟩
  by_cases hk : k = n
  · subst hk
    rw [hT] at hs'
    cases hs'
    have e : (Pr.add k F).F k = F := if_pos rfl
    rw [e]
    exact h
  · have e : (Pr.add n F).F k = Pr.F k := if_neg hk
    rw [e]
    exact (g.fns k sg' (by omega) hs').up
theorem Gw.next {P : Program} {w : World} {K : PySem.W.Frag} {mg : Str → Option Value} {base : Heap} {x qual : Str} {params : Arguments} {body : List Stmt} {scope : Scope} {kws : List (Str × V)} {f : Addr} {fd : FuncData} {N ps : List Str} {T : Tx} {Pr : Pg} {n : Nat} {sg : Sig} {F : List Dat → Res Dat} {ir : Ss}
    (g : Gw P w K mg base T Pr n) (hT : T.fns[n]? = some sg) (D : FunD K x qual params body scope [] kws f fd) (hg : mg sg.nm = some (.ref f)) (hs : FnScope N ps scope) (hp : ps.length = sg.ln.length) (hn : ps.length ≤ N.length) (hk : okSs (T.at_ sg.cl) n N scope sg.fr ir body = true)
    (hF : ∀ ds, ds.length = sg.ln.length → F ds ≠ .bad → runF Pr N.length sg.ln (sg.fr == 2) ir ds = F ds)
    (hb : ∀ (kV doc pm : Value) (an : Option Addr) (cdv ct : Value) (us : List Value), us.length = ps.length → bindArgs (PySem.W.fnOf x qual params body scope Value.none kV doc pm an cdv ct) { pos := us } = pure (ps.zip us)) (hkw : sg.kw = none := by rfl) :
    Gw P w K mg base T (Pr.add n F) (n + 1) := by
  refine g.add hT ?_
  unfold FnX
  rw [hkw]
  exact ⟨f, fd, ps, [], [], _, hg, D.kp, fn_ok D hs hp hn hk hF g, D.bindsN hb, .nil, fun vs H Q E q => by rw [List.append_nil]; exact q⟩
/-- a def with defaults, dvs; des: what they are; called with all that lacks behind the first parameters -/
theorem Gw.nextD {P : Program} {w : World} {K : PySem.W.Frag} {mg : Str → Option Value} {base : Heap} {x qual : Str} {params : Arguments} {body : List Stmt} {scope : Scope} {dvs : List V} {kws : List (Str × V)} {f : Addr} {fd : FuncData} {N ps : List Str} {T : Tx} {Pr : Pg} {n : Nat} {sg sg0 : Sig} {F F0 : List Dat → Res Dat} {ir : Ss}
    {j : Nat} {es : List Dat}
    (g : Gw P w K mg base T Pr n) (hT : T.fns[n]? = some sg) (D : FunD K x qual params body scope dvs kws f fd) (hg : mg sg.nm = some (.ref f)) (hs : FnScope N ps scope) (hp : ps.length = sg0.ln.length) (hn : ps.length ≤ N.length) (hk : okSs (T.at_ sg0.cl) n N scope sg0.fr ir body = true)
    (hF : ∀ ds, ds.length = sg0.ln.length → F0 ds ≠ .bad → runF Pr N.length sg0.ln (sg0.fr == 2) ir ds = F0 ds)
    (hfr : sg.fr = sg0.fr) (hcl : sg.cl = sg0.cl := by rfl) (hln : sg0.ln = sg.ln ++ List.replicate (dvs.drop j).length false) (he : ∀ G, Reps K G (dvs.drop j) es) (hF1 : ∀ ds, F ds = F0 (ds ++ es)) (hd : dvs ≠ [])
    (hb : ∀ (T : Addr) (kV doc pm : Value) (an : Option Addr) (cdv ct : Value) (us its : List Value), us.length = sg.ln.length → its.length = dvs.length →
      ∃ k, bindArgs (PySem.W.fnOf x qual params body scope (.ref T) kV doc pm an cdv ct) { pos := us } = seqItems? (.ref T) >>= k ∧ k (some its.toArray) = pure (ps.zip (us ++ its.drop j))) (hkw : sg.kw = none := by rfl) :
    Gw P w K mg base T (Pr.add n F) (n + 1) := by
  refine g.add hT ?_
  unfold FnX
  rw [hkw]
  have hlen : sg.ln.length + (dvs.length - j) = ps.length := by
    rw [hp, hln, List.length_append, List.length_replicate, List.length_drop]
  obtain ⟨ds, rds, hB⟩ := D.binds1 sg.ln.length j hd hlen hb
  have hfo := fn_ok D hs hp hn hk hF g
  rw [← hcl] at hfo
  refine ⟨f, fd, ps, ds, dvs.drop j, _, hg, D.kp, hfo, hB, rds, fun vs H Q E q => ?_⟩
  obtain ⟨G, ds', h1, h2, h3, h4⟩ := q
  refine ⟨G, ds' ++ es, h1, ?_, ?_, ?_⟩
  · rw [hln, List.length_append, List.length_append, List.length_replicate, h2]
  · rw [hln]
    exact ras_lastly h3 h2 (he G)
  · rw [← hF1, ← hfr]
    exact h4
theorem ras_strong {K : PySem.W.Frag} {H G : Hp} : ∀ {m : Nat} {vs : List V} {ds : List Dat}, RAs K H G (List.replicate m false) vs ds → Reps K G vs ds
  | _, _, _, .nil => .nil
  | 0, _, _, .cons r t => .cons (by simpa using r) (ras_strong (m := 0) t)
  | m + 1, _, _, .cons r t => .cons (by simpa [List.replicate] using r) (ras_strong t)
/-- .. with the last parameter told by its name, w; behind m written ones stand j defaults -/
theorem Gw.nextK {P : Program} {w_ : World} {K : PySem.W.Frag} {mg : Str → Option Value} {base : Heap} {x qual : Str} {params : Arguments} {body : List Stmt} {scope : Scope} {dvs : List V} {kws : List (Str × V)} {f : Addr} {fd : FuncData} {N ps : List Str} {T : Tx} {Pr : Pg} {n : Nat} {sg sg0 : Sig} {F F0 : List Dat → Res Dat} {ir : Ss}
    {j m : Nat} {es : List Dat} {w : Str}
    (g : Gw P w_ K mg base T Pr n) (hT : T.fns[n]? = some sg) (D : FunD K x qual params body scope dvs kws f fd) (hg : mg sg.nm = some (.ref f)) (hs : FnScope N ps scope) (hp : ps.length = sg0.ln.length) (hn : ps.length ≤ N.length) (hk : okSs (T.at_ sg0.cl) n N scope sg0.fr ir body = true)
    (hF : ∀ ds, ds.length = sg0.ln.length → F0 ds ≠ .bad → runF Pr N.length sg0.ln (sg0.fr == 2) ir ds = F0 ds)
    (hkw : sg.kw = some w) (hfr : sg.fr = sg0.fr) (hcl : sg.cl = sg0.cl := by rfl) (hln : sg.ln = List.replicate (m + 1) false) (hln0 : sg0.ln = List.replicate ps.length false) (hlen : m + (j + 1) = ps.length) (hj : j ≤ dvs.length)
    (he : ∀ G, Reps K G (dvs.take j) es) (hF1 : ∀ ds d, ds.length = m → F (ds ++ [d]) = F0 (ds ++ (es ++ [d]))) (hd : dvs ≠ [])
    (hb : ∀ (T : Addr) (kV doc pm : Value) (an : Option Addr) (cdv ct : Value) (us its : List Value) (v : Value), us.length = m → its.length = dvs.length →
      ∃ k, bindArgs (PySem.W.fnOf x qual params body scope (.ref T) kV doc pm an cdv ct) ⟨us, [(w, v)]⟩ = seqItems? (.ref T) >>= k ∧ k (some its.toArray) = pure (ps.zip (us ++ (its.take j ++ [v])))) :
    Gw P w_ K mg base T (Pr.add n F) (n + 1) := by
  refine g.add hT ?_
  unfold FnX
  rw [hkw]
  have hF' := fn_ok D hs hp hn hk hF g
  rw [← hcl] at hF'
  have kp := D.kp
  obtain ⟨oc, od, dV, kV, doc, pm, an, cdv, ct, osl, rfl, lk, hcd, hD, hK⟩ := D.ex
  rcases hD with ⟨e, _⟩ | ⟨_, T', o, its, m', rfl, lT, oT, rT⟩
  · exact absurd e hd
  · refine ⟨f, _, ps, fun us ws => us ++ (its.take j ++ ws), fun vs zs => vs ++ (dvs.take j ++ zs), _, hg, kp, hF', ⟨fun s us ws X l1 l2 => ?_, fun r1 r2 => r1.append ((rT.take j).append r2)⟩, by rw [hln, List.length_replicate], fun vs z H Q E q => ?_⟩
    · match ws, l2 with
      | [v], _ =>
        rw [hln, List.length_replicate] at l1
        obtain ⟨k, e1, e2⟩ := hb T' kV doc pm an cdv ct us its v (by simpa using l1) rT.length.symm
        refine BindsTo.of_looks fun M => ?_
        show PySem.W.Looks M s.heap (bindArgs _ ⟨us, [(w, v)]⟩) _
        rw [e1]
        exact looks_items X lT oT (.of_pure e2)
    · obtain ⟨G, ds', h1, h2, h3, h4⟩ := q
      rw [hln] at h2 h3
      have rr := ras_strong h3
      rw [List.length_append, List.length_replicate] at h2
      have hvl : vs.length = m := by simpa using h2
      have hdl : ds'.length = m + 1 := by rw [← rr.length, List.length_append, hvl]; rfl
      obtain ⟨ds1, d, rfl⟩ : ∃ ds1 d, ds' = ds1 ++ [d] := by
        have hne : ds' ≠ [] := fun z => by rw [z] at hdl; simp at hdl
        exact ⟨ds'.dropLast, ds'.getLast hne, (List.dropLast_concat_getLast hne).symm⟩
      have hd1 : ds1.length = m := by simpa using hdl
      have r1 : Reps K G vs ds1 := by
        have := rr.take m
        rwa [List.take_left' hvl, List.take_left' hd1] at this
      have r2 : Reps K G [z] [d] := by
        have := rr.drop m
        rwa [List.drop_left' hvl, List.drop_left' hd1] at this
      refine ⟨G, ds1 ++ (es ++ [d]), h1, ?_, ?_, ?_⟩
      · rw [hln0, List.length_replicate, List.length_append, List.length_append, hvl, List.length_take, Nat.min_eq_left hj]
        exact hlen
      · rw [hln0]
        exact ras_false (r1.append ((he G).append r2))
      · rw [← hF1 ds1 d hd1, ← hfr]
        exact h4
/-! ### more of what the top leaves -/
/-- self.row = row, as it is written -/
def initB (sc : Scope) : List Stmt → Bool
  | [st] => (match st with
    | .Assign ts y _ => (match ts with
      | [t] => (match t with
        | .Attribute o m _ => nmE "self" o && decide (m = ("row" : Str)) && nmE "row" y && visB sc "self" && visB sc "row"
        | _ => false)
      | _ => false)
    | _ => false)
  | _ => false
theorem initB_ok {sc : Scope} {b : List Stmt} (h : initB sc b = true) : ∃ p1 p2 p3 p4, b = [.Assign [.Attribute (.Name "self" p1) "row" p2] (.Name "row" p3) p4] ∧ visB sc "self" = true ∧ visB sc "row" = true := by
  cases b with
  | nil => cases h
  | cons st r =>
    cases r with
    | cons _ _ => cases h
    | nil =>
      simp only [initB] at h
      cases st <;> simp only at h <;> try (cases h; done)
      rename_i ts y p4
      cases ts with
      | nil => cases h
      | cons t r =>
        cases r with
        | cons _ _ => cases h
        | nil =>
          cases t <;> simp only at h <;> try (cases h; done)
          rename_i o m p2
          simp only [Bool.and_eq_true, decide_eq_true_eq] at h
          obtain ⟨⟨⟨⟨h1, rfl⟩, h3⟩, h4⟩, h5⟩ := h
          obtain ⟨p1, rfl⟩ := nmE_ok h1
          obtain ⟨p3, rfl⟩ := nmE_ok h3
          exact ⟨_, _, _, _, rfl, h4, h5⟩
theorem init_run {X : Cx} {body : List Stmt} (hN : X.N = [("self" : Str), ("row" : Str)]) (hb : initB X.env.scope body = true) : PSs X body (tOst X.K "row" (tVar 0) (tVar 1)) := by
  obtain ⟨p1, p2, p3, p4, rfl, h1, h2⟩ := initB_ok hb
  exact pss_one (ps_ost (pe_var (i := 0) (by rw [hN]; rfl) (vis_of h1)) (pe_var (i := 1) (by rw [hN]; rfl) (vis_of h2)))
theorem init_end {K : PySem.W.Frag} {vs : List V} {H : Hp} {Q : VK} {E : XK} (h : spInit K vs H Q E) : tOst K "row" (tVar 0) (tVar 1) { nx := fun _ H' => Q .non H', rt := Q } (L2.start ["self", "row"] vs) H := by
  obtain ⟨a, C, v, rfl, h1, h2, h3, h4⟩ := h
  exact ⟨_, rfl, _, rfl, a, C, rfl, h1, h2, .inl ⟨h3, h4⟩⟩
theorem init_len {K : PySem.W.Frag} (vs : List V) (H : Hp) (Q : VK) (E : XK) (h : spInit K vs H Q E) : vs.length = [("self" : Str), ("row" : Str)].length := by
  obtain ⟨a, C, v, rfl, _⟩ := h
  rfl
theorem init_fn {P : Program} {w : World} {K : PySem.W.Frag} {mg : Str → Option Value} {base : Heap} {x qual : Str} {params : Arguments} {body : List Stmt} {scope : Scope} {f : Addr} {fd : FuncData}
    (D : FunD K x qual params body scope [] [] f fd) (hs : FnScope ["self", "row"] ["self", "row"] scope) (hb : initB scope body = true) :
    FnOk P w K mg base (L2.CX P w) 1 f fd ["self", "row"] (spInit K) ∧ L2H.FnH P w K mg base (L2.CX P w) 1 f fd ["self", "row"] (spInit K) := by
  refine ⟨D.ok hs init_len fun cdv A outer s H vs Q E hr h => ⟨_, init_run rfl hb, init_end h⟩, ?_⟩
  obtain ⟨oc, od, dV, kV, doc, pm, an, cdv, ct, osl, rfl, lk, hcd, _, _⟩ := D.ex
  exact L2H.fn_ofH lk hcd hs init_len fun A outer s H vs Q E p hot hr h => ⟨_, init_run rfl hb, init_end h⟩
/-- what the top says of a class that is made with a row -/
def oexCls (K : PySem.W.Frag) (C : Addr) : Bool := match K.lookup C with
  | some ⟨.type "type", _, .cls cd, sl⟩ => (match cd.mro, sl.toList with
    | .ref C2 :: l, [_, _, _, _, some (.builtin m), _] => (C2 == C) && ((m == "ValueError.__new__") && (!cd.hasDel && (cd.hasDict && PySem.HandSPX.refsVE l)))
    | _, _ => false)
  | _ => false
theorem oexCls_ok {K : PySem.W.Frag} {C : Addr} (h : oexCls K C = true) : ∃ nm q N bs bm sn sub ab col dd k0 k1 k2 k3 k5, K.lookup C = some (excClassObj nm q C N bs bm true sn sub ab col dd k0 k1 k2 k3 k5 "ValueError.__new__") ∧ PySem.HandSPX.refsVE bm = true := by
  unfold oexCls at h
  split at h
  · rename_i dd cd sl hl
    split at h
    · rename_i C2 l a0 a1 a2 a3 m a5 e1 e2
      obtain ⟨h1, h⟩ := He.ba h
      obtain ⟨h2, h⟩ := He.ba h
      obtain ⟨h3, h⟩ := He.ba h
      obtain ⟨h4, h5⟩ := He.ba h
      have h1 := eq_of_beq h1
      have h2 := eq_of_beq h2
      subst h1 h2
      obtain ⟨n1, n2, n3, n4, n5, n6, n7, n8, n9, n10, n11⟩ := cd
      dsimp only at e1 h3 h4
      subst e1 h4
      have h3' : n11 = false := by simpa using h3
      subst h3'
      have es : sl = #[a0, a1, a2, a3, some (.builtin "ValueError.__new__"), a5] := by
        cases sl
        exact congrArg Array.mk e2
      subst es
      exact ⟨_, _, _, _, l, _, _, _, _, _, _, _, _, _, _, hl, h5⟩
    · cases h
  · cases h
def rwB (K : PySem.W.Frag) (C fI : Addr) : Bool := xfB K C && (oexCls K C && (He.eqO (PySem.W.findIn K (.ref C) "__setattr__") (some (some (.builtin "object.__setattr__"))) && (decide (PySem.W.subIn K (.ref C) (.type "BaseException") = some true) && (decide (PySem.W.typeIn K (.ref C) = some (.type "type")) &&
  (PySem.W.keepIn K (.ref C) && (He.eqO (PySem.W.findIn K (.ref C) "row") (some none) && (He.eqO (PySem.W.findIn K (.ref C) "__init__") (some (some (.ref fI))) && decide (PySem.W.typeIn K (.ref fI) = some (.type "function")))))))))
theorem rwB_ok {P : Program} {w : World} {K : PySem.W.Frag} {mg : Str → Option Value} {base : Heap} {C fI : Addr} {fd : FuncData} (h : rwB K C fI = true) (h1 : FnOk P w K mg base (L2.CX P w) 1 fI fd ["self", "row"] (spInit K))
    (h2 : L2H.FnH P w K mg base (L2.CX P w) 1 fI fd ["self", "row"] (spInit K)) (h3 : Binds K fd ["self", "row"] []) : RwK P w K mg base C := by
  obtain ⟨a0, h⟩ := He.ba h
  obtain ⟨a1, h⟩ := He.ba h
  obtain ⟨a2, h⟩ := He.ba h
  obtain ⟨a3, h⟩ := He.ba h
  obtain ⟨a4, h⟩ := He.ba h
  obtain ⟨a5, h⟩ := He.ba h
  obtain ⟨a6, h⟩ := He.ba h
  obtain ⟨a7, a8⟩ := He.ba h
  exact ⟨fI, fd, ⟨oexCls_ok a1, He.eqO_ok a2, of_decide_eq_true a3, of_decide_eq_true a4, a5⟩, He.eqO_ok a6, He.eqO_ok a7, of_decide_eq_true a8, h1, h2, h3, xfB_ok a0⟩
/-! ### a def that is one try -/
def okX (T : Tx) (n : Nat) (N : List Str) (sc : Scope) (e : E) (c d : Str) (i : Nat) : List Stmt → Bool
  | [st] => (match tryX1 c st with
    | some (y, d', v) => decide (d' = d) && glB sc c && okN c && T.exs.contains c && glB sc d && okN d && T.exr.contains d && decide (2 ≤ n) && decide (N[i]? = some v) && visB sc v && okN v && okE (T.at_ true) n N sc e y && kd (T.at_ true) e != 1
    | none => false)
  | _ => false
theorem fn_okX {P : Program} {w : World} {K : PySem.W.Frag} {mg : Str → Option Value} {base : Heap} {x qual : Str} {params : Arguments} {body : List Stmt} {scope : Scope} {dvs : List V} {kws : List (Str × V)} {f : Addr} {fd : FuncData} {N ps : List Str} {T : Tx} {Pr : Pg} {n : Nat} {sg : Sig} {F : List Dat → Res Dat} {e : E} {c d : Str} {i : Nat}
    (D : FunD K x qual params body scope dvs kws f fd) (hs : FnScope N ps scope) (hp : ps.length = sg.ln.length) (hn : ps.length ≤ N.length) (hk : okX T n N scope e c d i body = true) (hfr : sg.fr = 0)
    (hF : ∀ ds, ds.length = sg.ln.length → F ds ≠ .bad → runF Pr N.length sg.ln (sg.fr == 2) (.cons (.tryX e c d i) .nil) ds = F ds) (g : Gw P w K mg base T Pr n) :
    FnOk P w K mg base (L2.CX P w) (n + 1) f fd ps (spD K mg sg F) := by
  refine D.ok hs (fun vs H Q E ⟨G, ds, h1, h2, h3, h4⟩ => by rw [h2, hp]) (fun cdv A outer s H vs Q E hr ⟨G, ds, h1, h2, h3, h4⟩ => ?_)
  cases body with
  | nil => cases hk
  | cons st rst =>
    cases rst with
    | cons _ _ => cases hk
    | nil =>
      simp only [okX] at hk
      cases qt : tryX1 c st with
      | none => rw [qt] at hk; cases hk
      | some p =>
        obtain ⟨y, d', v⟩ := p
        rw [qt] at hk
        obtain ⟨p1, np, hp', rp, vp, cp, pos, tp, rfl⟩ := tryX1_ok qt
        simp only [Bool.and_eq_true, decide_eq_true_eq, bne_iff_ne] at hk
        obtain ⟨⟨⟨⟨⟨⟨⟨⟨⟨⟨⟨⟨rfl, k1⟩, k2⟩, k3⟩, k4⟩, k5⟩, k6⟩, k7⟩, k8⟩, k9⟩, k10⟩, k11⟩, k12⟩ := hk
        obtain ⟨C, hC, _⟩ := g.exs _ (List.contains_iff_mem.mp k3)
        obtain ⟨C2, hC2, fI, fd2, r1, r2, r3, r4, r5, r6, r7, r8⟩ := g.exr _ (List.contains_iff_mem.mp k6)
        have gc : scope.names.lookup c = some .globalImplicit := of_decide_eq_true k1
        have gd : scope.names.lookup d' = some .globalImplicit := of_decide_eq_true k4
        have hl : ds.length = sg.ln.length := by rw [← h3.len]; exact h2
        have eF := hF ds hl (fun z => by rw [z] at h4; exact h4)
        rw [← eF] at h4
        let X := cxOf (L2.CX P w) P w K mg base N qual scope f cdv A outer s H E
        have tk : Takes X (fun cls d _ H => E cls d H) := takes_of rfl rfl rfl rfl
        have st0 : SR X.K H G (ins sg.ln ds ++ List.replicate (N.length - ds.length) .un) (L2.start N vs) H G := SR.start (N := N) h1 h3 (by rw [h2, ← hp]; exact hn)
        have PSx := L2H.ps_try_onlyX (X := X) (x := c) (c := .ref C) (np := np) (pos := tp) (pos' := hp') (suite := []) (tb := fun W' D σ H => tK X Pr W' 0 e σ H D.rt)
          (ts := fun a cls dd D σ H => tMkO C2 (spInit K) [] (tCons (tVar i) tNil) σ H fun cls d H' => E cls d H') (Wout := fun cls d _ H => E cls d H) (b₀ := .Raise (some (.Call (.Name d' rp) [.Name v vp] [] cp)) none pos) (body := [.Return (some y) p1])
          rfl rfl ⟨gc, okN_d k2, .inl hC⟩ (L2H.passesAt_of rfl) tk
          (fun W' pn xe tkN _ ps => PSs.imp (pss_one (ps_ret (stillE k12 (snd_E (P := Pr) (T := T.at_ true) (n := n) e (X.tr pn xe) W' y ⟨rfl, hs.nd, hr, tkN, g.fns, g.cons, g.blt, g.exs, g.exm, g.iss, g.exr⟩ k11).pe))) fun D σ H q => q)
          (fun a oe cls dd pn hz hf tkS hot => pss_one (L2H.ps_raiseH hot tkS (L2H.PMk5.pmk (L2H.pmk5_oexH (X := L2H.suiteX X a ((a, oe) :: pn)) r1 r3 r4 r6 (L2H.roomH_mark (hr.mono k7) _) hot r7 passes0 gd hC2
            (pa_cons (pe_var (X := L2H.suiteX X a ((a, oe) :: pn)) k8 (vis_of k9) (okN_d k10) (okN_c k10)) pa_nil rfl) (okN_d k5) rfl rfl))))
        refine ⟨_, pss_one PSx, ?_⟩
        unfold runF at h4
        simp only [exSs, exS] at h4
        refine ⟨H, G, _, st0.er, ?_⟩
        cases qe : ev Pr e (ins sg.ln ds ++ List.replicate (N.length - ds.length) .un) with
        | bad => rw [qe] at h4; exact h4.elim
        | ok d0 =>
          rw [qe] at h4
          intro v0 H1 G1 x1 rv
          refine h4 v0 H1 G1 (st0.ext.trans x1) ?_
          rw [hfr]
          exact rv
        | exc c1 z =>
          rw [qe] at h4
          simp only [tryXO] at h4
          cases qm : Pr.X c1 c with
          | none => rw [qm] at h4; exact h4.elim
          | some b =>
            rw [qm] at h4
            obtain ⟨D1, D2, m1, m2, m3⟩ := g.exm c1 c b qm
            rw [hC] at m2
            cases m2
            intro cls dx H1 G1 x1 rv
            obtain ⟨⟨D3, m4, rfl⟩, rv2⟩ := rv
            have m4 : mg c1 = some (.ref D3) := m4
            rw [m1] at m4
            cases m4
            refine ⟨b, m3, fun hb a na => ?_, fun hb => ?_⟩
            · subst hb
              simp only at h4
              cases hd : getS (ins sg.ln ds ++ List.replicate (N.length - ds.length) .un) i with
              | fz vd =>
                rw [hd] at h4
                obtain ⟨o, o1, v1, rfl, rv1⟩ := (st0.on x1).er.at_ i _ (getS_some hd nofun)
                refine ⟨v1, o1, ?_⟩
                refine mk_row (H := H1) (v := v1) (Q := fun cls d H' => E cls d H') r1 r2 fun a dx na nd hda => ?_
                obtain ⟨y1, y2⟩ := made_row (mg := mg) (c := d') (st0.on x1).er.sub na nd hda hC2 rv1
                exact h4 _ _ _ _ ((st0.on x1).ext.trans y1) y2
              | un => rw [hd] at h4; exact h4.elim
              | ow _ => rw [hd] at h4; exact h4.elim
              | ln _ => rw [hd] at h4; exact h4.elim
              | ex _ _ _ _ => rw [hd] at h4; exact h4.elim
            · subst hb
              exact h4 _ dx H1 G1 (st0.ext.trans x1) ⟨⟨D1, m1, rfl⟩, rv2⟩
theorem Gw.nextX {P : Program} {w : World} {K : PySem.W.Frag} {mg : Str → Option Value} {base : Heap} {x qual : Str} {params : Arguments} {body : List Stmt} {scope : Scope} {kws : List (Str × V)} {f : Addr} {fd : FuncData} {N ps : List Str} {T : Tx} {Pr : Pg} {n : Nat} {sg : Sig} {F : List Dat → Res Dat} {e : E} {c d : Str} {i : Nat}
    (g : Gw P w K mg base T Pr n) (hT : T.fns[n]? = some sg) (D : FunD K x qual params body scope [] kws f fd) (hg : mg sg.nm = some (.ref f)) (hs : FnScope N ps scope) (hp : ps.length = sg.ln.length) (hn : ps.length ≤ N.length) (hk : okX T n N scope e c d i body = true)
    (hF : ∀ ds, ds.length = sg.ln.length → F ds ≠ .bad → runF Pr N.length sg.ln (sg.fr == 2) (.cons (.tryX e c d i) .nil) ds = F ds)
    (hb : ∀ (kV doc pm : Value) (an : Option Addr) (cdv ct : Value) (us : List Value), us.length = ps.length → bindArgs (PySem.W.fnOf x qual params body scope Value.none kV doc pm an cdv ct) { pos := us } = pure (ps.zip us)) (hkw : sg.kw = none := by rfl) (hfr : sg.fr = 0 := by rfl) (hcl : sg.cl = false := by rfl) :
    Gw P w K mg base T (Pr.add n F) (n + 1) := by
  refine g.add hT ?_
  unfold FnX
  rw [hkw]
  have z := fn_okX D hs hp hn hk hfr hF g
  refine ⟨f, fd, ps, [], [], _, hg, D.kp, ?_, D.bindsN hb, .nil, fun vs H Q E q => by rw [List.append_nil]; exact q⟩
  rw [hcl]
  exact z
def kitB (K : PySem.W.Frag) (D : Addr) (cv : Value) (b : Bool) : Bool := decide (PySem.W.kitOne K (.ref D) cv = some b)
theorem kitB_ok {K : PySem.W.Frag} {D : Addr} {cv : Value} {b : Bool} (h : kitB K D cv b = true) : PySem.W.kitOne K (.ref D) cv = some b := of_decide_eq_true h
def excCB (K : PySem.W.Frag) (D : Addr) : Bool := He.eqO (PySem.W.findIn K (.ref D) "row") (some none) && (He.eqO (PySem.W.findIn K (.ref D) "__getattribute__") (some (some (.builtin "BaseException.__getattribute__"))) && (He.eqO (PySem.W.findIn K (.ref D) "__getattr__") (some none) &&
  (decide (PySem.W.subIn K (.ref D) (.type "BaseException") = some true) && (PySem.W.hasDictIn K D && (He.eqO (PySem.W.findIn K (.ref D) "__class__") (some (some (.builtin "object.__class__"))) &&
  (He.eqO (PySem.W.specialIn K (.builtin "object.__class__") "__get__") (some (some (.builtin "getset_descriptor.__get__"))) && (decide (PySem.W.takesIn K (.builtin "object.__class__") = some true) && decide (PySem.W.mroIn K D (.type "object") = some true))))))))
theorem excCB_ok {K : PySem.W.Frag} {D : Addr} (h : excCB K D = true) : ExcC K D ∧ PySem.W.findIn K (.ref D) "row" = some none := by
  obtain ⟨h0, h⟩ := He.ba h
  refine ⟨?_, He.eqO_ok h0⟩
  obtain ⟨h1, h⟩ := He.ba h
  obtain ⟨h2, h⟩ := He.ba h
  obtain ⟨h3, h⟩ := He.ba h
  obtain ⟨h4, h⟩ := He.ba h
  obtain ⟨h5, h⟩ := He.ba h
  obtain ⟨h6, h⟩ := He.ba h
  obtain ⟨h7, h8⟩ := He.ba h
  exact ⟨He.eqO_ok h1, He.eqO_ok h2, of_decide_eq_true h3, h4, He.eqO_ok h5, He.eqO_ok h6, of_decide_eq_true h7, of_decide_eq_true h8⟩
abbrev AlX : Type := He.AlD × Bool
def exAll (ex : List (PySem.W.Frag → Bool)) (K : PySem.W.Frag) : Bool := ex.all fun f => f K
def obsXG (n : Nat) (fa : List He.Fa) (fn : List He.DefD) (ex : List (PySem.W.Frag → Bool)) (g : Addr → Option Obj) : AlX := (He.obsDG n fa fn g, exAll ex (He.frG g (He.asD g n)))
def hookX (n : Nat) (fa : List He.Fa) (fn : List He.DefD) (ex : List (PySem.W.Frag → Bool)) : PySem.W.Hook where
  α := AlX
  obs := fun s => obsXG n fa fn ex s.heap.get?
  val := fun _ => (He.valD fn, true)
  says := fun _ h => ∃ K : PySem.W.Frag, K.In h ∧ He.SaysD fa fn K ∧ exAll ex K = true
  of := fun _ _ e => ⟨_, He.frG_in, congrArg (fun z : AlX => z.1) e, congrArg (fun z : AlX => z.2) e⟩
  keeps := fun _ _ _ ⟨K, hK, c⟩ k => ⟨K, PySem.W.Frag.In.keeps hK k, c⟩
theorem obsXG_eq {n : Nat} {fa : List He.Fa} {fn : List He.DefD} {ex : List (PySem.W.Frag → Bool)} {g : Addr → Option Obj} {s : Shared} (h : ∀ a, g a = s.heap.get? a) : obsXG n fa fn ex g = (hookX n fa fn ex).obs s := by
  have e : g = s.heap.get? := funext h
  rw [e] <;> rfl
theorem exAll_at {ex : List (PySem.W.Frag → Bool)} {K : PySem.W.Frag} (h : exAll ex K = true) (i : Nat) {f : PySem.W.Frag → Bool} (e : ex[i]? = some f) : f K = true := List.all_eq_true.mp h f (List.mem_of_getElem? e)
/-- a global tuple of texts -/
def strsB : List Value → List Str → Bool
  | [], [] => true
  | .str y _ :: vs, z :: zs => decide (y = z) && strsB vs zs
  | _, _ => false
theorem strsB_ok : ∀ {vs : List Value} {zs : List Str}, strsB vs zs = true → Vals (zs.map V.str) vs
  | [], [], _ => .nil
  | [], _ :: _, h => by cases h
  | v :: vs, [], h => by cases v <;> cases h
  | v :: vs, z :: zs, h => by
    cases v <;> simp only [strsB] at h <;> try (cases h; done)
    rw [Bool.and_eq_true, decide_eq_true_eq] at h
    obtain ⟨rfl, h⟩ := h
    exact .cons ⟨_, rfl⟩ (strsB_ok h)
theorem reps_strs {K : PySem.W.Frag} {G : Hp} : ∀ zs : List Str, Reps K G (zs.map V.str) (zs.map PyData.str)
  | [] => .nil
  | z :: zs => .cons (.str z) (reps_strs zs)
def tupOB (o : Option Obj) (zs : List Str) : Bool := match o with
  | some o => decide (o.cls = .type "tuple") && (match o.data with
    | .seq its _ => decide (its.size ≤ 1000) && strsB its.toList zs
    | _ => false)
  | none => false
def tupSB (K : PySem.W.Frag) (x : Str) (zs : List Str) : Bool := match PySem.W.nsIn K mainGlobals x with
  | some (some (.ref a)) => tupOB (K.lookup a) zs
  | _ => false
theorem tupSB_ok {K : PySem.W.Frag} {h : Heap} {mg : Str → Option Value} (X : K.In h) (G : h.Ns mainGlobals mg) {x : Str} {zs : List Str} (c : tupSB K x zs = true) : ∃ u v, mg x = some u ∧ RelV v u ∧ ∀ G, Rep K G v (.tuple (zs.map .str)) := by
  unfold tupSB at c
  split at c
  · rename_i a e
    refine ⟨.ref a, .ref a, PySem.W.mg_of X G e, rfl, fun G => ?_⟩
    cases q : K.lookup a with
    | none => rw [q] at c; cases c
    | some o =>
      rw [q] at c
      simp only [tupOB, Bool.and_eq_true, decide_eq_true_eq] at c
      obtain ⟨c1, c2⟩ := c
      cases qd : o.data with
      | seq its n =>
        rw [qd] at c2
        simp only [Bool.and_eq_true, decide_eq_true_eq] at c2
        exact .tup (.inr ⟨o, its, n, q, c1, qd, Nat.le_trans c2.1 (by rw [sizeLine_eq]; decide), strsB_ok c2.2⟩) (reps_strs zs)
      | _ => rw [qd] at c2; cases c2
  · cases c
/-- a table of which class meets which clause -/
def xmF : List (Str × Str × Bool) → Str → Str → Option Bool
  | [], _, _ => none
  | (a, b, r) :: l, c, c' => if a = c ∧ b = c' then some r else xmF l c c'
theorem xm_of {p : Str → Str → Bool → Prop} : ∀ {l : List (Str × Str × Bool)} {c c' : Str} {b : Bool}, xmF l c c' = some b → (∀ q ∈ l, p q.1 q.2.1 q.2.2) → p c c' b
  | [], _, _, _, h, _ => by cases h
  | (a, b, r) :: l, c, c', z, h, q => by
    unfold xmF at h
    split at h
    · rename_i e
      obtain ⟨rfl, rfl⟩ := e
      cases h
      exact q (a, b, r) (by simp)
    · exact xm_of h fun x hx => q x (by simp [hx])
theorem reps_ints {K : PySem.W.Frag} {G : Hp} : ∀ ns : List Int, Reps K G (ns.map V.int) (ns.map PyData.int)
  | [] => .nil
  | n :: ns => .cons (.int n) (reps_ints ns)
theorem law_sp {K : PySem.W.Frag} {mg : Str → Option Value} {nm : Str} {b : Bool} {F : List Dat → Res Dat} {H : Hp} {a : Addr} {ns : List Int} (h : F [.list (ns.map .int)] = .ok (.bool true)) (hS : SqL K H a (ns.map V.int)) :
    spD K mg ⟨nm, [b], 0, none, false⟩ F [.ref a] H (fun v _ => v = .bl true) (fun _ _ _ => False) := by
  have r : Rep K H (.ref a) (.list (ns.map .int)) := .lst hS (reps_ints ns)
  refine ⟨H, [.list (ns.map .int)], Same.refl H, rfl, .cons ?_ .nil, ?_⟩
  · cases b
    · exact r
    · exact RW.st r
  · rw [h]
    intro v H' G' x r
    cases r
    rfl
theorem law_F {P : Program} {w : World} {K : PySem.W.Frag} {mg : Str → Option Value} {base : Heap} {x qual : Str} {params : Arguments} {body : List Stmt} {scope : Scope} {kws : List (Str × V)} {f : Addr} {fd : FuncData} {N ps : List Str} {T : Tx} {Pr : Pg} {n : Nat} {sg : Sig} {F : List Dat → Res Dat} {ir : Ss}
    (g : Gw P w K mg base T Pr n) (D : FunD K x qual params body scope [] kws f fd) (hs : FnScope N ps scope) (hp : ps.length = sg.ln.length) (hn : ps.length ≤ N.length) (hk : okSs (T.at_ sg.cl) n N scope sg.fr ir body = true)
    (hF : ∀ ds, ds.length = sg.ln.length → F ds ≠ .bad → runF Pr N.length sg.ln (sg.fr == 2) ir ds = F ds) (hcl : sg.cl = false := by rfl) : FnOk P w K mg base (L2.CX P w) (n + 1) f fd ps (spD K mg sg F) := by
  have z := fn_ok D hs hp hn hk hF g
  rw [hcl] at z
  exact z
/-- nothing leaves the law -/
theorem law_end {P : Program} {w : World} {K : PySem.W.Frag} {mg : Str → Option Value} {base : Heap} {k : Nat} {f : Addr} {fd : FuncData} {ps : List Str} {sp : Sp} (h : FnOk P w K mg base (L2.CX P w) k f fd ps sp) :
    FnOk P w K mg base CX0 k f fd ps (fun vs H Q _ => sp vs H Q (fun _ _ _ => False)) :=
  ⟨fun vs H Q E q => h.len vs H Q _ q, fun A outer s H args us vs Q E r e b v q => codeAny_mono (h.run A outer s H args us vs Q _ r e b v q) fun r s' z => by
    cases r with
    | ok fl => cases fl <;> exact z
    | error e =>
      obtain ⟨a, B, H', cls, d, _, _, _, _, _, _, _, z⟩ := z
      exact z⟩
/-- a class's k-th method, by place -/
def mth (st : Stmt) (k : Nat) : Stmt :=
  match st with
  | .ClassDef _ _ _ b _ _ _ _ _ _ _ => b.getD k (.Pass ⟨0, 0, 0, 0⟩)
  | _ => .Pass ⟨0, 0, 0, 0⟩
end NW
end

section
set_option maxHeartbeats 4000000
/-! Reading terms by simp; general laws of loops, cuts, equality over data. -/
namespace NW
open PySem PySem.Spec PyProof.Rows L2
/-! ### the steps of terms, without binders -/
def binR (o : Bop) (r s : Res Dat) : Res Dat := r >>= fun d => s >>= fun e => binD o d e
@[simp] theorem binR_ok (o : Bop) (d e : Dat) : binR o (.ok d) (.ok e) = binD o d e := nrfl rfl
@[simp] theorem binR_x (o : Bop) (c : Str) (x : Option Dat) (s : Res Dat) : binR o (.exc c x) s = .exc c x := nrfl rfl
@[simp] theorem binR_y (o : Bop) (d : Dat) (c : Str) (x : Option Dat) : binR o (.ok d) (.exc c x) = .exc c x := nrfl rfl
def negR (r : Res Dat) : Res Dat := r >>= fun d => match d with
    | .int i => .ok (.int (-i))
    | _ => .bad
@[simp] theorem negR_ok (i : Int) : negR (.ok (.int i)) = .ok (.int (-i)) := nrfl rfl
def blR (r : Res Bool) : Res Dat := r >>= fun r => .ok (.bool r)
@[simp] theorem blR_ok (b : Bool) : blR (.ok b) = .ok (.bool b) := nrfl rfl
def cmpR (o : Cop) (r s : Res Dat) : Res Dat := r >>= fun d => s >>= fun e => blR (cmpD o d e)
@[simp] theorem cmpR_ok (o : Cop) (d e : Dat) : cmpR o (.ok d) (.ok e) = blR (cmpD o d e) := nrfl rfl
@[simp] theorem cmpR_x (o : Cop) (c : Str) (x : Option Dat) (s : Res Dat) : cmpR o (.exc c x) s = .exc c x := nrfl rfl
@[simp] theorem cmpR_y (o : Cop) (d : Dat) (c : Str) (x : Option Dat) : cmpR o (.ok d) (.exc c x) = .exc c x := nrfl rfl
def chnB (o : Res Bool) (p : Cop) (e : Dat) (t : Res Dat) : Res Dat := o >>= fun r => match r with
    | true => t >>= fun f => blR (cmpD p e f)
    | false => .ok (.bool false)
@[simp] theorem chnB_t (p : Cop) (e f : Dat) : chnB (.ok true) p e (.ok f) = blR (cmpD p e f) := nrfl rfl
@[simp] theorem chnB_f (p : Cop) (e : Dat) (t : Res Dat) : chnB (.ok false) p e t = .ok (.bool false) := nrfl rfl
def chnR (o p : Cop) (r s t : Res Dat) : Res Dat := r >>= fun d => s >>= fun e => chnB (cmpD o d e) p e t
@[simp] theorem chnR_ok (o p : Cop) (d e : Dat) (t : Res Dat) : chnR o p (.ok d) (.ok e) t = chnB (cmpD o d e) p e t := nrfl rfl
def tR (r : Res Dat) : Res Bool := r >>= fun d => truD d
@[simp] theorem tR_ok (d : Dat) : tR (.ok d) = truD d := nrfl rfl
@[simp] theorem tR_x (c : Str) (x : Option Dat) : tR (.exc c x) = .exc c x := nrfl rfl
def ifR (c : Res Bool) (a b : Res Dat) : Res Dat := c >>= fun r => match r with
    | true => a
    | false => b
@[simp] theorem ifR_t (a b : Res Dat) : ifR (.ok true) a b = a := nrfl rfl
@[simp] theorem ifR_f (a b : Res Dat) : ifR (.ok false) a b = b := nrfl rfl
@[simp] theorem ifR_x (c : Str) (x : Option Dat) (a b : Res Dat) : ifR (.exc c x) a b = .exc c x := nrfl rfl
def andR (r s : Res Dat) : Res Dat := r >>= fun d => ifR (truD d) s (.ok d)
@[simp] theorem andR_ok (d : Dat) (s : Res Dat) : andR (.ok d) s = ifR (truD d) s (.ok d) := nrfl rfl
@[simp] theorem andR_x (c : Str) (x : Option Dat) (s : Res Dat) : andR (.exc c x) s = .exc c x := nrfl rfl
def orR (r s : Res Dat) : Res Dat := r >>= fun d => ifR (truD d) (.ok d) s
@[simp] theorem orR_ok (d : Dat) (s : Res Dat) : orR (.ok d) s = ifR (truD d) (.ok d) s := nrfl rfl
@[simp] theorem orR_x (c : Str) (x : Option Dat) (s : Res Dat) : orR (.exc c x) s = .exc c x := nrfl rfl
def notR (r : Res Bool) : Res Dat := r >>= fun r => .ok (.bool (!r))
@[simp] theorem notR_ok (b : Bool) : notR (.ok b) = .ok (.bool (!b)) := nrfl rfl
@[simp] theorem notR_x (c : Str) (x : Option Dat) : notR (.exc c x) = .exc c x := nrfl rfl
def ixR (r s : Res Dat) : Res Dat := r >>= fun d => s >>= fun e => ixD d e
@[simp] theorem ixR_ok (d e : Dat) : ixR (.ok d) (.ok e) = ixD d e := nrfl rfl
def slR (r : Res Dat) (lo hi : Res (Option Int)) : Res Dat := r >>= fun d => lo >>= fun l => hi >>= fun h => slD d l h
@[simp] theorem slR_ok (d : Dat) (l h : Option Int) : slR (.ok d) (.ok l) (.ok h) = slD d l h := nrfl rfl
def tupR (r : Res (List Dat)) : Res Dat := r >>= fun ds => if ds.length ≤ 1000000 then .ok (.tuple ds) else .bad
@[simp] theorem tupR_ok (ds : List Dat) : tupR (.ok ds) = if ds.length ≤ 1000000 then .ok (.tuple ds) else .bad := nrfl rfl
@[simp] theorem tupR_x (c : Str) (x : Option Dat) : tupR (.exc c x) = .exc c x := nrfl rfl
def lstR (r : Res (List Dat)) : Res Dat := r >>= fun ds => if ds.length ≤ 1000000 then .ok (.list ds) else .bad
@[simp] theorem lstR_ok (ds : List Dat) : lstR (.ok ds) = if ds.length ≤ 1000000 then .ok (.list ds) else .bad := nrfl rfl
@[simp] theorem lstR_x (c : Str) (x : Option Dat) : lstR (.exc c x) = .exc c x := nrfl rfl
def calR (F : List Dat → Res Dat) (r : Res (List Dat)) : Res Dat := r >>= fun ds => F ds
@[simp] theorem calR_ok (F : List Dat → Res Dat) (ds : List Dat) : calR F (.ok ds) = F ds := nrfl rfl
def calkR (F : List Dat → Res Dat) (r : Res (List Dat)) (s : Res Dat) : Res Dat := r >>= fun ds => s >>= fun d => F (ds ++ [d])
@[simp] theorem calkR_ok (F : List Dat → Res Dat) (ds : List Dat) (d : Dat) : calkR F (.ok ds) (.ok d) = F (ds ++ [d]) := nrfl rfl
@[simp] theorem calR_x (F : List Dat → Res Dat) (c : Str) (x : Option Dat) : calR F (.exc c x) = .exc c x := nrfl rfl
def biR (f : Bi) (r : Res (List Dat)) : Res Dat := r >>= fun ds => biD f ds
@[simp] theorem biR_ok (f : Bi) (ds : List Dat) : biR f (.ok ds) = biD f ds := nrfl rfl
@[simp] theorem biR_x (f : Bi) (c : Str) (x : Option Dat) : biR f (.exc c x) = .exc c x := nrfl rfl
def isiR (t : Ty) (r : Res Dat) : Res Dat := r >>= fun d => blR (isiD t d)
@[simp] theorem isiR_ok (t : Ty) (d : Dat) : isiR t (.ok d) = blR (isiD t d) := nrfl rfl
def m0R (m : M0) (r : Res Dat) : Res Dat := r >>= fun d => m0D m d
@[simp] theorem m0R_ok (m : M0) (d : Dat) : m0R m (.ok d) = m0D m d := nrfl rfl
def m1R (m : M1) (r s : Res Dat) : Res Dat := r >>= fun d => strD d >>= fun x => s >>= fun e => m1D m (.str x) e
@[simp] theorem m1R_ok (m : M1) (x : Str) (e : Dat) : m1R m (.ok (.str x)) (.ok e) = m1D m (.str x) e := nrfl rfl
def varR (s : Sl) : Res Dat := match s with
    | .fz d => .ok d
    | _ => .bad
@[simp] theorem varR_fz (d : Dat) : varR (.fz d) = .ok d := nrfl rfl
def tvR (s : Sl) : Res Dat := match s with
    | .fz (.list ds) => .ok (.list ds)
    | .ow ds => .ok (.list ds)
    | .ln ds => .ok (.list ds)
    | _ => .bad
@[simp] theorem tvR_fz (ds : List Dat) : tvR (.fz (.list ds)) = .ok (.list ds) := nrfl rfl
@[simp] theorem tvR_ow (ds : List Dat) : tvR (.ow ds) = .ok (.list ds) := nrfl rfl
@[simp] theorem tvR_ln (ds : List Dat) : tvR (.ln ds) = .ok (.list ds) := nrfl rfl
def consR (r : Res Dat) (s : Res (List Dat)) : Res (List Dat) := r >>= fun d => s >>= fun ds => .ok (d :: ds)
@[simp] theorem consR_ok (d : Dat) (ds : List Dat) : consR (.ok d) (.ok ds) = .ok (d :: ds) := nrfl rfl
@[simp] theorem consR_x (c : Str) (x : Option Dat) (s : Res (List Dat)) : consR (.exc c x) s = .exc c x := nrfl rfl
@[simp] theorem consR_y (d : Dat) (c : Str) (x : Option Dat) : consR (.ok d) (.exc c x) = .exc c x := nrfl rfl
def dc1R (r s : Res Dat) : Res Dat := r >>= fun d => strD d >>= fun x => s >>= fun y => .ok (.dict [(.str x, y)])
@[simp] theorem dc1R_ok (x : Str) (y : Dat) : dc1R (.ok (.str x)) (.ok y) = .ok (.dict [(.str x, y)]) := nrfl rfl
def dgetR (r s t : Res Dat) : Res Dat := r >>= fun d => isDct d >>= fun kvs => s >>= fun d => strD d >>= fun x => t >>= fun y => .ok ((lkD kvs x).getD y)
@[simp] theorem dgetR_ok (kvs : List (Dat × Dat)) (x : Str) (y : Dat) : dgetR (.ok (.dict kvs)) (.ok (.str x)) (.ok y) = .ok ((lkD kvs x).getD y) := nrfl rfl
section
variable (P : Pg) (ρ : En) (a b c : E) (es : Es)
@[simp] theorem ev_dc0 : ev P .dc0 ρ = .ok (.dict []) := by simp only [ev]
@[simp] theorem ev_dc1 : ev P (.dc1 a b) ρ = dc1R (ev P a ρ) (ev P b ρ) := by simp only [ev]; rfl
@[simp] theorem ev_dget : ev P (.dget a b c) ρ = dgetR (ev P a ρ) (ev P b ρ) (ev P c ρ) := by simp only [ev]; rfl
@[simp] theorem ev_var (i : Nat) : ev P (.var i) ρ = varR (getS ρ i) := by simp only [ev]; rfl
@[simp] theorem ev_tv (i : Nat) : ev P (.tv i) ρ = tvR (getS ρ i) := by simp only [ev]; rfl
@[simp] theorem ev_non : ev P .non ρ = .ok .none := by simp only [ev]
@[simp] theorem ev_bl (x : Bool) : ev P (.bl x) ρ = .ok (.bool x) := by simp only [ev]
@[simp] theorem ev_int (i : Int) : ev P (.int i) ρ = .ok (.int i) := by simp only [ev]
@[simp] theorem ev_str (x : Str) : ev P (.str x) ρ = .ok (.str x) := by simp only [ev]
@[simp] theorem ev_con (k : Nat) : ev P (.con k) ρ = .ok (P.C k) := by simp only [ev]
@[simp] theorem ev_bin (o : Bop) : ev P (.bin o a b) ρ = binR o (ev P a ρ) (ev P b ρ) := by simp only [ev]; rfl
@[simp] theorem ev_neg : ev P (.neg a) ρ = negR (ev P a ρ) := by simp only [ev]; rfl
@[simp] theorem ev_cmp (o : Cop) : ev P (.cmp o a b) ρ = cmpR o (ev P a ρ) (ev P b ρ) := by simp only [ev]; rfl
@[simp] theorem ev_chn (o p : Cop) : ev P (.chn o p a b c) ρ = chnR o p (ev P a ρ) (ev P b ρ) (ev P c ρ) := by simp only [ev]; rfl
@[simp] theorem ev_and : ev P (.and a b) ρ = andR (ev P a ρ) (ev P b ρ) := by simp only [ev]; rfl
@[simp] theorem ev_or : ev P (.or a b) ρ = orR (ev P a ρ) (ev P b ρ) := by simp only [ev]; rfl
@[simp] theorem ev_not : ev P (.not a) ρ = notR (tR (ev P a ρ)) := by
  simp only [ev]
  cases ev P a ρ <;> rfl
@[simp] theorem ev_ife : ev P (.ife c a b) ρ = ifR (tR (ev P c ρ)) (ev P a ρ) (ev P b ρ) := by
  simp only [ev]
  cases ev P c ρ <;> rfl
@[simp] theorem ev_ix : ev P (.ix a b) ρ = ixR (ev P a ρ) (ev P b ρ) := by simp only [ev]; rfl
@[simp] theorem ev_sl : ev P (.sl a b c) ρ = slR (ev P a ρ) (optE b (ev P b ρ)) (optE c (ev P c ρ)) := by simp only [ev]; rfl
@[simp] theorem ev_tup : ev P (.tup es) ρ = tupR (evs P es ρ) := by simp only [ev]; rfl
@[simp] theorem ev_lst : ev P (.lst es) ρ = lstR (evs P es ρ) := by simp only [ev]; rfl
@[simp] theorem ev_calk (k : Nat) (w : Str) (e : E) : ev P (.calk k es w e) ρ = calkR (P.F k) (evs P es ρ) (ev P e ρ) := by simp only [ev]; rfl
@[simp] theorem ev_cal (k : Nat) : ev P (.cal k es) ρ = calR (P.F k) (evs P es ρ) := by simp only [ev]; rfl
@[simp] theorem ev_bi (f : Bi) : ev P (.bi f es) ρ = biR f (evs P es ρ) := by simp only [ev]; rfl
@[simp] theorem ev_isi (t : Ty) : ev P (.isi t a) ρ = isiR t (ev P a ρ) := by simp only [ev]; rfl
@[simp] theorem ev_nrw (c : Str) : ev P (.nrw c a) ρ = ev P a ρ := by simp only [ev]
@[simp] theorem ev_m0 (m : M0) : ev P (.m0 m a) ρ = m0R m (ev P a ρ) := by simp only [ev]; rfl
@[simp] theorem ev_m1 (m : M1) : ev P (.m1 m a b) ρ = m1R m (ev P a ρ) (ev P b ρ) := by simp only [ev]; rfl
@[simp] theorem evs_nil : evs P .nil ρ = .ok [] := by simp only [evs]
@[simp] theorem evs_cons : evs P (.cons a es) ρ = consR (ev P a ρ) (evs P es ρ) := by simp only [evs]; rfl
end
def itR (r : Res Dat) : Res (List Dat) := r >>= fun d => itemsD d
@[simp] theorem itR_ok (d : Dat) : itR (.ok d) = itemsD d := nrfl rfl
def r1R (r : Res Dat) : Res (List Dat) := r >>= fun d => match d with
    | .int n => if small62 n then .ok (rngL 0 n.toNat) else .bad
    | _ => .bad
theorem small_of {a : Int} (h : -(2 ^ 62) ≤ a) (h' : a < 2 ^ 62) : small62 a = true := decide_eq_true ⟨h, h'⟩
theorem r1R_int {n : Int} (h : -1000000000 ≤ n) (h' : n ≤ 1000000000) : r1R (.ok (.int n)) = .ok ((List.range n.toNat).map fun i : Nat => PyData.int (i : Int)) := by
  have e : r1R (.ok (.int n)) = .ok (rngL 0 n.toNat) := if_pos (small_of (by omega) (by omega))
  rw [e]
  simp only [rngL, Int.zero_add]
theorem r1R_nat {n : Nat} (h : n ≤ 1000000000) : r1R (.ok (.int (n : Int))) = .ok ((List.range n).map fun i : Nat => PyData.int (i : Int)) := by
  have := r1R_int (n := (n : Int)) (by omega) (by omega)
  simpa using this
theorem r1R_nat1 {n : Nat} (h : n ≤ 1000000) : r1R (.ok (.int ((n : Int) + 1))) = .ok ((List.range (n + 1)).map fun i : Nat => PyData.int (i : Int)) := r1R_nat (n := n + 1) (by omega)
def r2R (r s : Res Dat) : Res (List Dat) := r >>= fun d => s >>= fun e => match d, e with
    | .int m, .int n => if small62 m && small62 n then .ok (rngL m (n - m).toNat) else .bad
    | _, _ => .bad
theorem r2R_int {m n : Int} (h : -1000000000 ≤ m) (h' : m ≤ 1000000000) (k : -1000000000 ≤ n) (k' : n ≤ 1000000000) : r2R (.ok (.int m)) (.ok (.int n)) = .ok ((List.range (n - m).toNat).map fun i : Nat => PyData.int (m + (i : Int))) := by
  have e : r2R (.ok (.int m)) (.ok (.int n)) = .ok (rngL m (n - m).toNat) := if_pos (by rw [small_of (by omega) (by omega), small_of (by omega) (by omega)]; rfl)
  rw [e]
  rfl
def lnR (s : Sl) : Res (List Dat) := match s with
    | .ln ds => .ok ds
    | _ => .bad
def owR (s : Sl) : Res (List Dat) := match s with
    | .ow ds => .ok ds
    | _ => .bad
@[simp] theorem owR_ow (ds : List Dat) : owR (.ow ds) = .ok ds := nrfl rfl
@[simp] theorem lnR_ln (ds : List Dat) : lnR (.ln ds) = .ok ds := nrfl rfl
section
variable (P : Pg) (ρ : En) (a b : E)
@[simp] theorem evI_seq : evI P (.seq a) ρ = itR (ev P a ρ) := by simp only [evI]; rfl
@[simp] theorem evI_own (i : Nat) : evI P (.own i) ρ = owR (getS ρ i) := by simp only [evI]; rfl
@[simp] theorem evI_ln (i : Nat) : evI P (.lent i) ρ = lnR (getS ρ i) := by simp only [evI]; rfl
@[simp] theorem evI_r1 : evI P (.rng1 a) ρ = r1R (ev P a ρ) := by simp only [evI]; rfl
@[simp] theorem evI_r2 : evI P (.rng2 a b) ρ = r2R (ev P a ρ) (ev P b ρ) := by simp only [evI]; rfl
end
/-! statements -/
def setR (i : Nat) (r : Res Dat) (ρ : En) : Out := Out.of r fun d => .nx (ρ.set i (.fz d))
@[simp] theorem setR_ok (i : Nat) (d : Dat) (ρ : En) : setR i (.ok d) ρ = .nx (ρ.set i (.fz d)) := nrfl rfl
@[simp] theorem setR_x (i : Nat) (c : Str) (x : Option Dat) (ρ : En) : setR i (.exc c x) ρ = .exc c x := nrfl rfl
def setOR (i : Nat) (r : Res Dat) (ρ : En) : Out := Out.of r fun d => match d with
    | .list ds => .nx (ρ.set i (.ow ds))
    | _ => .bad
@[simp] theorem setOR_ok (i : Nat) (ds : List Dat) (ρ : En) : setOR i (.ok (.list ds)) ρ = .nx (ρ.set i (.ow ds)) := nrfl rfl
@[simp] theorem setOR_x (i : Nat) (c : Str) (x : Option Dat) (ρ : En) : setOR i (.exc c x) ρ = .exc c x := nrfl rfl
def enR (r : Res En) : Out := Out.of r .nx
@[simp] theorem enR_ok (ρ : En) : enR (.ok ρ) = .nx ρ := nrfl rfl
def tupS (is : List Nat) (r : Res Dat) (ρ : En) : Out := Out.of r fun d => enR (setT (.tp is) d ρ)
@[simp] theorem tupS_ok (is : List Nat) (d : Dat) (ρ : En) : tupS is (.ok d) ρ = enR (setT (.tp is) d ρ) := nrfl rfl
@[simp] theorem tupS_x (is : List Nat) (c : Str) (x : Option Dat) (ρ : En) : tupS is (.exc c x) ρ = .exc c x := nrfl rfl
def appR (i : Nat) (s : Sl) (r : Res Dat) (ρ : En) : Out := match s with
    | .ow ds => Out.of r fun d => if ds.length < 1000000 then .nx (ρ.set i (.ow (ds ++ [d]))) else .bad
    | _ => .bad
@[simp] theorem appR_ok (i : Nat) (ds : List Dat) (d : Dat) (ρ : En) : appR i (.ow ds) (.ok d) ρ = if ds.length < 1000000 then .nx (ρ.set i (.ow (ds ++ [d]))) else .bad := nrfl rfl
@[simp] theorem appR_x (i : Nat) (ds : List Dat) (c : Str) (x : Option Dat) (ρ : En) : appR i (.ow ds) (.exc c x) ρ = .exc c x := nrfl rfl
def revR (i : Nat) (s : Sl) (ρ : En) : Out := match s with
    | .ow ds => .nx (ρ.set i (.ow ds.reverse))
    | _ => .bad
@[simp] theorem revR_ok (i : Nat) (ds : List Dat) (ρ : En) : revR i (.ow ds) ρ = .nx (ρ.set i (.ow ds.reverse)) := nrfl rfl
def extR (i : Nat) (s : Sl) (r : Res Dat) (ρ : En) : Out := match s with
    | .ow ds => Out.of r fun d => match d with
      | .list es => if ds.length + es.length < 1000000 then .nx (ρ.set i (.ow (ds ++ es))) else .bad
      | _ => .bad
    | _ => .bad
@[simp] theorem extR_ok (i : Nat) (ds es : List Dat) (ρ : En) : extR i (.ow ds) (.ok (.list es)) ρ = if ds.length + es.length < 1000000 then .nx (ρ.set i (.ow (ds ++ es))) else .bad := nrfl rfl
@[simp] theorem extR_x (i : Nat) (ds : List Dat) (c : Str) (x : Option Dat) (ρ : En) : extR i (.ow ds) (.exc c x) ρ = .exc c x := nrfl rfl
def ifO (c : Res Bool) (P : Pg) (a b : Ss) (ρ : En) : Out := Out.of c fun r => match r with
    | true => exSs P a ρ
    | false => exSs P b ρ
@[simp] theorem ifO_t (P : Pg) (a b : Ss) (ρ : En) : ifO (.ok true) P a b ρ = exSs P a ρ := nrfl rfl
@[simp] theorem ifO_f (P : Pg) (a b : Ss) (ρ : En) : ifO (.ok false) P a b ρ = exSs P b ρ := nrfl rfl
@[simp] theorem ifO_x (P : Pg) (c : Str) (x : Option Dat) (a b : Ss) (ρ : En) : ifO (.exc c x) P a b ρ = .exc c x := nrfl rfl
def retR (r : Res Dat) : Out := Out.of r .ret
@[simp] theorem retR_ok (d : Dat) : retR (.ok d) = .ret d := nrfl rfl
@[simp] theorem retR_x (c : Str) (x : Option Dat) : retR (.exc c x) = .exc c x := nrfl rfl
def rtvR (s : Sl) : Out := match s with
    | .ow ds => .ret (.list ds)
    | _ => .bad
@[simp] theorem rtvR_ok (ds : List Dat) : rtvR (.ow ds) = .ret (.list ds) := nrfl rfl
def expR (r : Res Dat) (ρ : En) : Out := Out.of r fun _ => .nx ρ
@[simp] theorem expR_ok (d : Dat) (ρ : En) : expR (.ok d) ρ = .nx ρ := nrfl rfl
@[simp] theorem expR_x (c : Str) (x : Option Dat) (ρ : En) : expR (.exc c x) ρ = .exc c x := nrfl rfl
@[simp] theorem keepO_some (i : Nat) (ρ : En) (d : Dat) : keepO (some i) ρ d = .nx (ρ.set i (.fz d)) := nrfl rfl
@[simp] theorem keepO_none (ρ : En) (d : Dat) : keepO none ρ d = .nx ρ := nrfl rfl
@[simp] theorem tryO_ok (m : Str → Option Bool) (i : Option Nat) (j : Nat) (ρ : En) (h : Res Dat) (d : Dat) : tryO m i j ρ h (.ok d) = keepO i ρ d := nrfl rfl
/-- what an exception in a try comes to -/
def metO (b : Option Bool) (j : Nat) (ρ : En) (h : Res Dat) (c : Str) (x : Option Dat) : Out := match b with
  | some true => Out.of h fun d => .nx (ρ.set j (.fz d))
  | some false => .exc c x
  | none => .bad
@[simp] theorem tryO_x (m : Str → Option Bool) (i : Option Nat) (j : Nat) (ρ : En) (h : Res Dat) (c : Str) (x : Option Dat) : tryO m i j ρ h (.exc c x) = metO (m c) j ρ h c x := by
  cases h : m c with
  | none => simp only [tryO, metO, h]
  | some b => cases b <;> simp only [tryO, metO, h]
@[simp] theorem metO_t (j : Nat) (ρ : En) (d : Dat) (c : Str) (x : Option Dat) : metO (some true) j ρ (.ok d) c x = .nx (ρ.set j (.fz d)) := nrfl rfl
@[simp] theorem metO_f (j : Nat) (ρ : En) (h : Res Dat) (c : Str) (x : Option Dat) : metO (some false) j ρ h c x = .exc c x := nrfl rfl
/-- what an exception comes to that is asked for its classes -/
def metI (b : Option Bool) (o1 o2 : Option (List Bool)) (i j : Nat) (ρ : En) (c : Str) : Out := match b with
  | some true => match o1, o2 with
    | some b1, some b2 => if i < ρ.length ∧ j < ρ.length ∧ i ≠ j ∧ b1.length + b2.length ≤ 1000 then .nx ((ρ.set j (.fz (.tuple ((b1 ++ b2).map .bool)))).set i .un) else .bad
    | _, _ => .bad
  | some false => .exc c none
  | none => .bad
@[simp] theorem tryIO_ok (m : Str → Option Bool) (f : Str → Str → Option Bool) (i j : Nat) (n1 n2 : List Str) (ρ : En) (d : Dat) : tryIO m f i j n1 n2 ρ (.ok d) = .nx ρ := nrfl rfl
@[simp] theorem tryIO_x (m : Str → Option Bool) (f : Str → Str → Option Bool) (i j : Nat) (n1 n2 : List Str) (ρ : En) (c : Str) : tryIO m f i j n1 n2 ρ (.exc c none) = metI (m c) (isAll (f c) n1) (isAll (f c) n2) i j ρ c := by
  cases h : m c with
  | none => simp only [tryIO, metI, h]
  | some b =>
    cases b with
    | false => simp only [tryIO, metI, h]
    | true => cases h1 : isAll (f c) n1 <;> cases h2 : isAll (f c) n2 <;> simp only [tryIO, metI, h, h1, h2]
@[simp] theorem metI_f (o1 o2 : Option (List Bool)) (i j : Nat) (ρ : En) (c : Str) : metI (some false) o1 o2 i j ρ c = .exc c none := nrfl rfl
@[simp] theorem metI_t (b1 b2 : List Bool) (i j : Nat) (ρ : En) (c : Str) : metI (some true) (some b1) (some b2) i j ρ c = if i < ρ.length ∧ j < ρ.length ∧ i ≠ j ∧ b1.length + b2.length ≤ 1000 then .nx ((ρ.set j (.fz (.tuple ((b1 ++ b2).map .bool)))).set i .un) else .bad := nrfl rfl
/-- what an exception in a try that gives another comes to -/
def metX (b : Option Bool) (d : Str) (s : Sl) (c : Str) (x : Option Dat) : Out := match b with
  | some true => match s with
    | .fz v => .exc d (some v)
    | _ => .bad
  | some false => .exc c x
  | none => .bad
@[simp] theorem tryXO_ok (m : Str → Option Bool) (d : Str) (s : Sl) (v : Dat) : tryXO m d s (.ok v) = .ret v := nrfl rfl
@[simp] theorem tryXO_x (m : Str → Option Bool) (d : Str) (s : Sl) (c : Str) (x : Option Dat) : tryXO m d s (.exc c x) = metX (m c) d s c x := by
  cases h : m c with
  | none => simp only [tryXO, metX, h]
  | some b => cases b <;> cases s <;> simp only [tryXO, metX, h]
@[simp] theorem metX_t (d : Str) (v : Dat) (c : Str) (x : Option Dat) : metX (some true) d (.fz v) c x = .exc d (some v) := nrfl rfl
@[simp] theorem metX_f (d : Str) (s : Sl) (c : Str) (x : Option Dat) : metX (some false) d s c x = .exc c x := nrfl rfl
/-- what an exception comes to that is asked for its row and its classes -/
def metR (b : Option Bool) (o : Option (List Bool)) (i j : Nat) (ρ : En) (c : Str) (d : Dat) : Out := match b with
  | some true => match o with
    | some bs => if i < ρ.length ∧ j < ρ.length ∧ i ≠ j ∧ bs.length ≤ 1000 then .nx ((ρ.set j (.fz (.tuple (d :: bs.map .bool)))).set i .un) else .bad
    | none => .bad
  | some false => .exc c (some d)
  | none => .bad
@[simp] theorem tryRO_ok (m : Str → Option Bool) (f : Str → Str → Option Bool) (i j : Nat) (ns : List (List Str)) (ρ : En) (d : Dat) : tryRO m f i j ns ρ (.ok d) = .nx ρ := nrfl rfl
@[simp] theorem tryRO_x (m : Str → Option Bool) (f : Str → Str → Option Bool) (i j : Nat) (ns : List (List Str)) (ρ : En) (c : Str) (d : Dat) : tryRO m f i j ns ρ (.exc c (some d)) = metR (m c) (isAll (f c) ns.flatten) i j ρ c d := by
  cases h : m c with
  | none => simp only [tryRO, metR, h]
  | some b =>
    cases b with
    | false => simp only [tryRO, metR, h]
    | true => cases h1 : isAll (f c) ns.flatten <;> simp only [tryRO, metR, h, h1]
@[simp] theorem metR_t (bs : List Bool) (i j : Nat) (ρ : En) (c : Str) (d : Dat) : metR (some true) (some bs) i j ρ c d = if i < ρ.length ∧ j < ρ.length ∧ i ≠ j ∧ bs.length ≤ 1000 then .nx ((ρ.set j (.fz (.tuple (d :: bs.map .bool)))).set i .un) else .bad := nrfl rfl
def raisR (c : Str) (r : Res Dat) : Out := Out.of r fun d => .exc c (some d)
@[simp] theorem raisR_ok (c : Str) (d : Dat) : raisR c (.ok d) = .exc c (some d) := nrfl rfl
def seqO (o : Out) (P : Pg) (r : Ss) : Out := o.thn (exSs P r)
@[simp] theorem seqO_nx (P : Pg) (r : Ss) (ρ : En) : seqO (.nx ρ) P r = exSs P r ρ := nrfl rfl
@[simp] theorem seqO_ct (P : Pg) (r : Ss) (ρ : En) : seqO (.ct ρ) P r = .ct ρ := nrfl rfl
@[simp] theorem seqO_ret (P : Pg) (r : Ss) (d : Dat) : seqO (.ret d) P r = .ret d := nrfl rfl
@[simp] theorem seqO_x (P : Pg) (r : Ss) (c : Str) (x : Option Dat) : seqO (.exc c x) P r = .exc c x := nrfl rfl
def frzO (s : Sl) (P : Pg) (i : Nat) (r : Ss) (ρ : En) : Out := match s with
    | .ow ds => exSs P r (ρ.set i (.fz (.list ds)))
    | _ => .bad
@[simp] theorem frzO_ow (P : Pg) (i : Nat) (r : Ss) (ρ : En) (ds : List Dat) : frzO (.ow ds) P i r ρ = exSs P r (ρ.set i (.fz (.list ds))) := nrfl rfl
def tryBR (r : Res Dat) : Out := match r with
  | .ok d => .ret d
  | _ => .bad
@[simp] theorem tryBR_ok (d : Dat) : tryBR (.ok d) = .ret d := nrfl rfl
/-- a reply's parts -/
def retFR (fl : List Bool) (r : Res (List Dat)) : Out := Out.of r fun ds => if ds.length ≤ 1000000 ∧ freshT fl ds = true then .ret (.tuple ds) else .bad
@[simp] theorem retFR_ok (fl : List Bool) (ds : List Dat) : retFR fl (.ok ds) = if ds.length ≤ 1000000 ∧ freshT fl ds = true then .ret (.tuple ds) else .bad := nrfl rfl
@[simp] theorem retFR_x (fl : List Bool) (c : Str) (x : Option Dat) : retFR fl (.exc c x) = .exc c x := nrfl rfl
@[simp] theorem freshT_nil (fl : List Bool) : freshT fl [] = true := by cases fl <;> rfl
@[simp] theorem freshT_cons (b : Bool) (fl : List Bool) (d : Dat) (ds : List Dat) : freshT (b :: fl) (d :: ds) = ((b || !isLst d) && freshT fl ds) := nrfl rfl
@[simp] theorem isLst_str (x : Str) : isLst (.str x) = false := nrfl rfl
@[simp] theorem isLst_int (x : Int) : isLst (.int x) = false := nrfl rfl
@[simp] theorem isLst_bool (x : Bool) : isLst (.bool x) = false := nrfl rfl
@[simp] theorem isLst_none : isLst .none = false := nrfl rfl
@[simp] theorem isLst_tup (ds : List Dat) : isLst (.tuple ds) = false := nrfl rfl
@[simp] theorem isLst_lst (ds : List Dat) : isLst (.list ds) = true := nrfl rfl
def leaseD (r : Res Dat) (P : Pg) (i : Nat) (d : Dat) (k : Nat) (rest : Ss) (ρ : En) : Out := if (leaseK d k && decide (i < ρ.length)) = true then Out.of r fun _ => exSs P rest (ρ.set i .un) else .bad
@[simp] theorem leaseD_ok (a : Dat) (P : Pg) (i : Nat) (d : Dat) (k : Nat) (rest : Ss) (ρ : En) : leaseD (.ok a) P i d k rest ρ = if (leaseK d k && decide (i < ρ.length)) = true then exSs P rest (ρ.set i .un) else .bad := nrfl rfl
def leaseC (b : Res Bool) (P : Pg) (i : Nat) (d : Dat) (k : Nat) (o : E) (rest : Ss) (ρ : En) : Out := Out.of b fun b => match b with
  | true => leaseD (ev P o (ρ.set i (.fz d))) P i d k rest ρ
  | false => exSs P rest (ρ.set i .un)
@[simp] theorem leaseC_t (P : Pg) (i : Nat) (d : Dat) (k : Nat) (o : E) (rest : Ss) (ρ : En) : leaseC (.ok true) P i d k o rest ρ = leaseD (ev P o (ρ.set i (.fz d))) P i d k rest ρ := nrfl rfl
@[simp] theorem leaseC_f (P : Pg) (i : Nat) (d : Dat) (k : Nat) (o : E) (rest : Ss) (ρ : En) : leaseC (.ok false) P i d k o rest ρ = exSs P rest (ρ.set i .un) := nrfl rfl
def leaseB (b : Res Bool) (P : Pg) (i : Nat) (d : Dat) (r c2 : E) (k : Nat) (o : E) (rest : Ss) (ρ : En) : Out := Out.of b fun b => match b with
  | true => retR (ev P r (ρ.set i (.fz d)))
  | false => leaseC (tR (ev P c2 (ρ.set i (.fz d)))) P i d k o rest ρ
@[simp] theorem leaseB_t (P : Pg) (i : Nat) (d : Dat) (r c2 : E) (k : Nat) (o : E) (rest : Ss) (ρ : En) : leaseB (.ok true) P i d r c2 k o rest ρ = retR (ev P r (ρ.set i (.fz d))) := nrfl rfl
@[simp] theorem leaseB_f (P : Pg) (i : Nat) (d : Dat) (r c2 : E) (k : Nat) (o : E) (rest : Ss) (ρ : En) : leaseB (.ok false) P i d r c2 k o rest ρ = leaseC (tR (ev P c2 (ρ.set i (.fz d)))) P i d k o rest ρ := nrfl rfl
def leaseA (r0 : Res Dat) (P : Pg) (i : Nat) (c1 r c2 : E) (k : Nat) (o : E) (rest : Ss) (ρ : En) : Out := Out.of r0 fun d => leaseB (tR (ev P c1 (ρ.set i (.fz d)))) P i d r c2 k o rest ρ
@[simp] theorem leaseA_ok (d : Dat) (P : Pg) (i : Nat) (c1 r c2 : E) (k : Nat) (o : E) (rest : Ss) (ρ : En) : leaseA (.ok d) P i c1 r c2 k o rest ρ = leaseB (tR (ev P c1 (ρ.set i (.fz d)))) P i d r c2 k o rest ρ := nrfl rfl
def lowR (r : Res (List Dat)) (s : Sl) : Out := match s with
    | .ow xs => Out.of r fun ds => if ds.length < 1000000 ∧ freshT [] ds = true then .ret (.tuple (ds ++ [.list xs])) else .bad
    | _ => .bad
@[simp] theorem lowR_ok (ds xs : List Dat) : lowR (.ok ds) (.ow xs) = if ds.length < 1000000 ∧ freshT [] ds = true then .ret (.tuple (ds ++ [.list xs])) else .bad := nrfl rfl
@[simp] theorem freshT_cons0 (d : Dat) (ds : List Dat) : freshT [] (d :: ds) = (!isLst d && freshT [] ds) := nrfl rfl
@[simp] theorem oGet_some (e : E) : (some e).getD E.non = e := nrfl rfl
@[simp] theorem oGet_none : (none : Option E).getD E.non = E.non := nrfl rfl
section
variable (P : Pg) (ρ : En) (e c : E) (i : Nat)
@[simp] theorem exS_retF (fl : List Bool) (es : Es) : exS P (.retF fl es) ρ = retFR fl (evs P es ρ) := by simp only [exS]; rfl
@[simp] theorem exS_retC : exS P (.retC e) ρ = retR (ev P e ρ) := by simp only [exS]; rfl
@[simp] theorem exS_retL (es : Es) : exS P (.retL es i) ρ = lowR (evs P es ρ) (getS ρ i) := by simp only [exS]; rfl
@[simp] theorem exSs_lease (c1 r c2 : E) (k : Nat) (o : Option E) (rest : Ss) : exSs P (.lease i e c1 r c2 k o rest) ρ = leaseA (ev P e ρ) P i c1 r c2 k (o.getD .non) rest ρ := by simp only [exSs]; rfl
@[simp] theorem exS_set : exS P (.set i e) ρ = setR i (ev P e ρ) ρ := by simp only [exS]; rfl
@[simp] theorem exS_setO : exS P (.setO i e) ρ = setOR i (ev P e ρ) ρ := by simp only [exS]; rfl
@[simp] theorem exS_tup (is : List Nat) : exS P (.tup is e) ρ = tupS is (ev P e ρ) ρ := by simp only [exS]; rfl
@[simp] theorem exS_app : exS P (.app i e) ρ = appR i (getS ρ i) (ev P e ρ) ρ := by simp only [exS]; rfl
@[simp] theorem exS_rev : exS P (.rev i) ρ = revR i (getS ρ i) ρ := by simp only [exS]; rfl
@[simp] theorem exS_ext : exS P (.ext i e) ρ = extR i (getS ρ i) (ev P e ρ) ρ := by simp only [exS]; rfl
@[simp] theorem exS_ifs (a b : Ss) : exS P (.ifs c a b) ρ = ifO (tR (ev P c ρ)) P a b ρ := by simp only [exS]; rfl
@[simp] theorem exS_ret : exS P (.ret e) ρ = retR (ev P e ρ) := by simp only [exS]; rfl
@[simp] theorem exS_retO : exS P (.retO e) ρ = retR (ev P e ρ) := by simp only [exS]; rfl
@[simp] theorem exS_retV : exS P (.retV i) ρ = rtvR (getS ρ i) := by simp only [exS]; rfl
@[simp] theorem exS_retN : exS P .retN ρ = .ret .none := by simp only [exS]
@[simp] theorem exS_expr : exS P (.expr e) ρ = expR (ev P e ρ) ρ := by simp only [exS]; rfl
@[simp] theorem exS_pass : exS P .pass ρ = .nx ρ := by simp only [exS]
@[simp] theorem exS_cont : exS P .cont ρ = .ct ρ := by simp only [exS]
@[simp] theorem exS_tryB (c : Str) : exS P (.tryB e c) ρ = tryBR (ev P e ρ) := by simp only [exS]; rfl
@[simp] theorem exS_raisX (c : Str) : exS P (.raisX c e) ρ = raisR c (ev P e ρ) := by simp only [exS]; rfl
@[simp] theorem exS_tryX (c d : Str) : exS P (.tryX e c d i) ρ = tryXO (fun c' => P.X c' c) d (getS ρ i) (ev P e ρ) := by simp only [exS]
@[simp] theorem exS_tryR (c : Str) (j : Nat) (ns : List (List Str)) : exS P (.tryR e c i j ns) ρ = tryRO (fun c' => P.X c' c) P.I i j ns ρ (ev P e ρ) := by simp only [exS]
@[simp] theorem exS_rais (c : Str) : exS P (.rais c) ρ = .exc c none := by simp only [exS]
@[simp] theorem exS_tryI (c : Str) (i j : Nat) (n1 n2 : List Str) : exS P (.tryI e c i j n1 n2) ρ = tryIO (fun c' => P.X c' c) P.I i j n1 n2 ρ (ev P e ρ) := by simp only [exS]
@[simp] theorem exS_tryE (j : Option Nat) (c : Str) (k : Nat) (h : E) : exS P (.tryE j e c k h) ρ = tryO (fun c' => P.X c' c) j k ρ (ev P h ρ) (ev P e ρ) := by simp only [exS]
@[simp] theorem exSs_nil : exSs P .nil ρ = .nx ρ := by simp only [exSs]
@[simp] theorem exSs_cons (s : S) (r : Ss) : exSs P (.cons s r) ρ = seqO (exS P s ρ) P r := by simp only [exSs]; rfl
@[simp] theorem exSs_frz (r : Ss) : exSs P (.frz i r) ρ = frzO (getS ρ i) P i r ρ := by simp only [exSs]; rfl
end
def runO (fr : Bool) (o : Out) : Res Dat := match o with
  | .ret d => .ok d
  | .nx _ => if fr then .bad else .ok .none
  | .exc c x => .exc c x
  | _ => .bad
@[simp] theorem runO_ret (fr : Bool) (d : Dat) : runO fr (.ret d) = .ok d := nrfl rfl
@[simp] theorem runO_nx (ρ : En) : runO false (.nx ρ) = .ok .none := nrfl rfl
@[simp] theorem runO_x (fr : Bool) (c : Str) (x : Option Dat) : runO fr (.exc c x) = .exc c x := nrfl rfl
@[simp] theorem runF_eq (P : Pg) (n : Nat) (ws : List Bool) (fr : Bool) (body : Ss) (ds : List Dat) : runF P n ws fr body ds = runO fr (exSs P body (ins ws ds ++ List.replicate (n - ds.length) .un)) := nrfl rfl
@[simp] theorem getS_zero (s : Sl) (ρ : En) : getS (s :: ρ) 0 = s := nrfl rfl
@[simp] theorem getS_succ (s : Sl) (ρ : En) (i : Nat) : getS (s :: ρ) (i + 1) = getS ρ i := nrfl rfl
@[simp] theorem bin_add (a b : Int) : binD .add (.int a) (.int b) = .ok (.int (a + b)) := nrfl rfl
@[simp] theorem bin_sub (a b : Int) : binD .sub (.int a) (.int b) = .ok (.int (a - b)) := nrfl rfl
theorem bin_mul (a b : Int) (h : -(2 ^ 64) < b ∧ b < 2 ^ 64) : binD .mul (.int a) (.int b) = .ok (.int (a * b)) := if_pos (.inr h)
theorem bin_mul' (a b : Int) (h : -(2 ^ 64) < a ∧ a < 2 ^ 64) : binD .mul (.int a) (.int b) = .ok (.int (a * b)) := if_pos (.inl h)
theorem bin_mod (a b : Int) (h : 0 < b) : binD .mod (.int a) (.int b) = .ok (.int (a % b)) := by
  have e : b ≠ 0 := by omega
  simp only [binD, if_pos e]
  rw [Int.fmod_eq_emod_of_nonneg _ (by omega)]
theorem bin_div (a b : Int) (h : 0 < b) (h' : b < 1073741824) : binD .div (.int a) (.int b) = .ok (.int (a / b)) := by
  have e : b ≠ 0 ∧ b.natAbs < 1073741824 := by omega
  simp only [binD, if_pos e]
  rw [Int.fdiv_eq_ediv_of_nonneg _ (by omega)]
theorem bin_cat (a b : Str) (h : a.length + b.length ≤ 1000000) : binD .add (.str a) (.str b) = .ok (.str (a ++ b)) := if_pos h
theorem bin_tup (a b : List Dat) (h : a.length + b.length ≤ 1000000) : binD .add (.tuple a) (.tuple b) = .ok (.tuple (a ++ b)) := if_pos h
theorem bin_lst (a b : List Dat) (h : a.length + b.length ≤ 1000000) : binD .add (.list a) (.list b) = .ok (.list (a ++ b)) := if_pos h
@[simp] theorem cmp_lt (a b : Int) : cmpD .lt (.int a) (.int b) = .ok (decide (a < b)) := nrfl rfl
@[simp] theorem cmp_le (a b : Int) : cmpD .le (.int a) (.int b) = .ok (decide (a ≤ b)) := nrfl rfl
@[simp] theorem cmp_gt (a b : Int) : cmpD .gt (.int a) (.int b) = .ok (decide (b < a)) := nrfl rfl
@[simp] theorem cmp_ge (a b : Int) : cmpD .ge (.int a) (.int b) = .ok (decide (b ≤ a)) := nrfl rfl
@[simp] theorem shOk_int (a : Int) : shOk (.int a) = true := nrfl rfl
@[simp] theorem shOk_str (a : Str) : shOk (.str a) = true := nrfl rfl
@[simp] theorem shOk_bool (a : Bool) : shOk (.bool a) = true := nrfl rfl
@[simp] theorem shOk_none : shOk .none = true := nrfl rfl
theorem cmpEq (a b : Dat) (h1 : shOk a = true) (h2 : shOk b = true) : cmpD .eq a b = .ok (PyData.eqv a b) := by simp [cmpD, h1, h2]
theorem cmpNe (a b : Dat) (h1 : shOk a = true) (h2 : shOk b = true) : cmpD .ne a b = .ok (!PyData.eqv a b) := by simp [cmpD, h1, h2]
@[simp] theorem eqv_int (a b : Int) : PyData.eqv (.int a) (.int b) = decide (a = b) := by simp [PyData.eqv]; rfl
@[simp] theorem eqv_str (a b : Str) : PyData.eqv (.str a) (.str b) = decide (a = b) := by simp [PyData.eqv]; rfl
@[simp] theorem eqv_bool (a b : Bool) : PyData.eqv (.bool a) (.bool b) = decide (a = b) := by cases a <;> cases b <;> rfl
@[simp] theorem cmp_eqi (a b : Int) : cmpD .eq (.int a) (.int b) = .ok (decide (a = b)) := by rw [cmpEq _ _ rfl rfl, eqv_int]
@[simp] theorem cmp_nei (a b : Int) : cmpD .ne (.int a) (.int b) = .ok (!decide (a = b)) := by rw [cmpNe _ _ rfl rfl, eqv_int]
@[simp] theorem cmp_eqs (a b : Str) : cmpD .eq (.str a) (.str b) = .ok (decide (a = b)) := by rw [cmpEq _ _ rfl rfl, eqv_str]
@[simp] theorem cmp_nes (a b : Str) : cmpD .ne (.str a) (.str b) = .ok (!decide (a = b)) := by rw [cmpNe _ _ rfl rfl, eqv_str]
@[simp] theorem cmp_eqb (a b : Bool) : cmpD .eq (.bool a) (.bool b) = .ok (decide (a = b)) := by rw [cmpEq _ _ rfl rfl, eqv_bool]
@[simp] theorem cmp_neb (a b : Bool) : cmpD .ne (.bool a) (.bool b) = .ok (!decide (a = b)) := by rw [cmpNe _ _ rfl rfl, eqv_bool]

/-! ### lists of texts -/
theorem eqvAll_strs : ∀ a b : List Str, PyData.eqvAll (a.map PyData.str) (b.map PyData.str) = decide (a = b)
  | [], [] => by simp [PyData.eqvAll]
  | [], _ :: _ => by simp [PyData.eqvAll]
  | _ :: _, [] => by simp [PyData.eqvAll]
  | x :: a, y :: b => by
    simp only [List.map_cons, PyData.eqvAll, eqv_str, eqvAll_strs a b, List.cons.injEq]
    by_cases h : x = y <;> by_cases h' : a = b <;> simp [h, h']
theorem eqv_tup_strs (a b : List Str) : PyData.eqv (.tuple (a.map .str)) (.tuple (b.map .str)) = decide (a = b) := by
  simp only [PyData.eqv]
  exact eqvAll_strs a b
theorem depths_strs : ∀ a : List Str, PyData.depthAll (a.map PyData.str) ≤ 1
  | [] => by simp [PyData.depthAll]
  | x :: a => by
    have := depths_strs a
    simp only [List.map_cons, PyData.depthAll, PyData.depth]
    omega
theorem ndcs_strs : ∀ a : List Str, ndcs (a.map PyData.str) = true
  | [] => by simp [ndcs]
  | x :: a => by simp [ndcs, ndc, ndcs_strs a]
theorem shOk_tup_strs (a : List Str) : shOk (.tuple (a.map .str)) = true := by
  have := depths_strs a
  simp only [shOk, ndc, ndcs_strs, PyData.depth, Bool.true_and, decide_eq_true_eq]
  exact decide_eq_true (by omega)
theorem shOk_lst_strs (a : List Str) : shOk (.list (a.map .str)) = true := by
  have := depths_strs a
  simp only [shOk, ndc, ndcs_strs, PyData.depth, Bool.true_and, decide_eq_true_eq]
  exact decide_eq_true (by omega)

/-! ### cuts, places -/
theorem atI_nat {α : Type} (xs : List α) (i : Nat) : atI xs (i : Int) = xs[i]? := by
  unfold atI ixN
  by_cases h : i < xs.length
  · simp [h]
  · simp [h]
theorem sIx_nat (n d k : Nat) : HT.sIx n d (some (k : Int)) = min k n := by
  unfold HT.sIx
  simp only
  rw [if_neg (by omega)]
  rfl
theorem cut_to {α : Type} (xs : List α) (k : Nat) : cutL xs none (some (k : Int)) = xs.take k := by
  unfold cutL
  rw [sIx_nat]
  simp [HT.sIx]
theorem cut_from {α : Type} (xs : List α) (k : Nat) : cutL xs (some (k : Int)) none = xs.drop k := by
  unfold cutL
  rw [sIx_nat]
  show List.take (xs.length - min k xs.length) (List.drop (min k xs.length) xs) = _
  by_cases h : k ≤ xs.length
  · rw [Nat.min_eq_left h, List.take_of_length_le (by simp)]
  · rw [Nat.min_eq_right (by omega)]
    rw [List.drop_of_length_le (by omega : xs.length ≤ k)]
    simp
theorem cut_mid {α : Type} (xs : List α) (j k : Nat) : cutL xs (some (j : Int)) (some (k : Int)) = (xs.drop j).take (k - j) := by
  unfold cutL
  rw [sIx_nat, sIx_nat]
  by_cases h : j ≤ xs.length
  · rw [Nat.min_eq_left h]
    by_cases h2 : k ≤ xs.length
    · rw [Nat.min_eq_left h2]
    · rw [Nat.min_eq_right (by omega)]
      rw [List.take_of_length_le (by simp), List.take_of_length_le (by simp; omega)]
  · rw [Nat.min_eq_right (by omega : xs.length ≤ j), List.drop_of_length_le (by omega : xs.length ≤ j)]
    simp

/-! ### loops -/
theorem lcL_map {f : Dat → Res (Option Dat)} {α : Type} {e : α → Dat} {g : α → Dat} : ∀ (xs : List α), (∀ x ∈ xs, f (e x) = .ok (some (g x))) → lcL f (xs.map e) = .ok (xs.map g)
  | [], _ => rfl
  | x :: xs, h => by
    simp only [List.map_cons, lcL]
    rw [h x (by simp), lcL_map xs fun y hy => h y (by simp [hy])]
    rfl
theorem lcL_filter {f : Dat → Res (Option Dat)} {α : Type} {e : α → Dat} {g : α → Dat} {p : α → Bool} : ∀ (xs : List α), (∀ x ∈ xs, f (e x) = .ok (if p x then some (g x) else none)) → lcL f (xs.map e) = .ok ((xs.filter p).map g)
  | [], _ => rfl
  | x :: xs, h => by
    simp only [List.map_cons, lcL]
    rw [h x (by simp), lcL_filter xs fun y hy => h y (by simp [hy])]
    cases hp : p x <;> simp [hp]
/-- a loop, by what holds ahead of the turns that are left -/
theorem forL_rule {tmp : List Nat} {f : Dat → En → Out} {Q : Out → Prop} {α : Type} {e : α → Dat} (I : List α → En → Prop) : ∀ (xs : List α) (ρ : En), I xs (unS tmp ρ) → (∀ ρ, I [] ρ → Q (.nx ρ)) →
    (∀ x xs ρ, I (x :: xs) ρ → match f (e x) ρ with
      | .nx ρ' => I xs (unS tmp ρ')
      | .ct ρ' => I xs (unS tmp ρ')
      | o => Q o) → Q (forL tmp f (xs.map e) ρ)
  | [], ρ, h, h0, _ => h0 _ h
  | x :: xs, ρ, h, h0, h1 => by
    simp only [List.map_cons, forL]
    have := h1 x xs _ h
    cases q : f (e x) (unS tmp ρ) with
    | nx ρ' => rw [q] at this; exact forL_rule I xs ρ' this h0 h1
    | ct ρ' => rw [q] at this; exact forL_rule I xs ρ' this h0 h1
    | ret d => rw [q] at this; exact this
    | exc c x => rw [q] at this; exact this
    | bad => rw [q] at this; exact this
/-- a loop that folds -/
theorem forL_fold {tmp : List Nat} {f : Dat → En → Out} {α β : Type} {e : α → Dat} (st : β → En) (g : β → α → β) (I : List α → β → Prop) : ∀ (xs : List α) (b : β) (ρ : En), I xs b → unS tmp ρ = st b →
    (∀ b x rest, x ∈ xs → I (x :: rest) b → I rest (g b x) ∧ ∃ ρ', (f (e x) (st b) = .nx ρ' ∨ f (e x) (st b) = .ct ρ') ∧ unS tmp ρ' = st (g b x)) → forL tmp f (xs.map e) ρ = .nx (st (xs.foldl g b)) ∧ I [] (xs.foldl g b)
  | [], b, ρ, hi, h, _ => ⟨by simp only [List.map_nil, forL, h, List.foldl_nil], hi⟩
  | x :: xs, b, ρ, hi, h, h1 => by
    simp only [List.map_cons, forL, h, List.foldl_cons]
    obtain ⟨hi', ρ', hq, hu⟩ := h1 b x xs (by simp) hi
    have z := forL_fold st g I xs (g b x) ρ' hi' hu fun b y rest hy => h1 b y rest (by simp [hy])
    rcases hq with hq | hq
    · rw [hq]; exact z
    · rw [hq]; exact z
/-- a loop that looks for one, else changes nothing -/
theorem forL_any {tmp : List Nat} {f : Dat → En → Out} {α : Type} {e : α → Dat} (p : α → Bool) (d : Dat) (ρ0 : En) : ∀ (xs : List α) (ρ : En), unS tmp ρ = ρ0 →
    (∀ x ∈ xs, if p x then f (e x) ρ0 = .ret d else ∃ ρ', (f (e x) ρ0 = .nx ρ' ∨ f (e x) ρ0 = .ct ρ') ∧ unS tmp ρ' = ρ0) → forL tmp f (xs.map e) ρ = cond (xs.any p) (.ret d) (.nx ρ0)
  | [], ρ, h, _ => by simp only [List.map_nil, forL, h, List.any_nil]; rfl
  | x :: xs, ρ, h, h1 => by
    simp only [List.map_cons, forL, h, List.any_cons]
    have hx := h1 x (by simp)
    by_cases hp : p x = true
    · rw [if_pos hp] at hx; rw [hx, hp]; rfl
    · rw [if_neg hp] at hx
      rw [Bool.not_eq_true] at hp
      rw [hp, Bool.false_or]
      obtain ⟨ρ', hq, hu⟩ := hx
      have z := forL_any p d ρ0 xs ρ' hu fun y hy => h1 y (by simp [hy])
      rcases hq with hq | hq
      · rw [hq]; exact z
      · rw [hq]; exact z

/-! .. of the terms -/
theorem for_fold {P : Pg} {tmp : List Nat} {tg : Tg} {it : It} {body : Ss} {ρ : En} {α β : Type} (e : α → Dat) (xs : List α) (st : β → En) (g : β → α → β) (I : List α → β → Prop) (b : β) (hi : evI P it ρ = .ok (xs.map e)) (h0 : I xs b) (hu : unS tmp ρ = st b)
    (h : ∀ b x rest, x ∈ xs → I (x :: rest) b → I rest (g b x) ∧ ∃ ρ1 ρ', setT tg (e x) (st b) = .ok ρ1 ∧ (exSs P body ρ1 = .nx ρ' ∨ exSs P body ρ1 = .ct ρ') ∧ unS tmp ρ' = st (g b x)) :
    exS P (.for_ tmp tg it body) ρ = .nx (st (xs.foldl g b)) ∧ I [] (xs.foldl g b) := by
  simp only [exS, hi, out_ok]
  refine forL_fold st g I xs b ρ h0 hu fun b x rest hx hb => ?_
  obtain ⟨h1, ρ1, ρ', h2, h3, h4⟩ := h b x rest hx hb
  refine ⟨h1, ρ', ?_, h4⟩
  rw [h2]
  exact h3
theorem for_any {P : Pg} {tmp : List Nat} {tg : Tg} {it : It} {body : Ss} {ρ : En} {α : Type} (e : α → Dat) (xs : List α) (p : α → Bool) (d : Dat) (ρ0 : En) (hi : evI P it ρ = .ok (xs.map e)) (hu : unS tmp ρ = ρ0)
    (h : ∀ x ∈ xs, ∃ ρ1, setT tg (e x) ρ0 = .ok ρ1 ∧ if p x then exSs P body ρ1 = .ret d else ∃ ρ', (exSs P body ρ1 = .nx ρ' ∨ exSs P body ρ1 = .ct ρ') ∧ unS tmp ρ' = ρ0) :
    exS P (.for_ tmp tg it body) ρ = cond (xs.any p) (.ret d) (.nx ρ0) := by
  simp only [exS, hi, out_ok]
  refine forL_any p d ρ0 xs ρ hu fun x hx => ?_
  obtain ⟨ρ1, h2, h3⟩ := h x hx
  rw [h2]
  exact h3
theorem for_rule {P : Pg} {tmp : List Nat} {tg : Tg} {it : It} {body : Ss} {ρ : En} {Q : Out → Prop} {α : Type} (e : α → Dat) (I : List α → En → Prop) (xs : List α) (hi : evI P it ρ = .ok (xs.map e)) (h0 : I xs (unS tmp ρ)) (hn : ∀ ρ, I [] ρ → Q (.nx ρ))
    (h : ∀ x xs ρ, I (x :: xs) ρ → ∃ ρ1, setT tg (e x) ρ = .ok ρ1 ∧ match exSs P body ρ1 with
      | .nx ρ' => I xs (unS tmp ρ')
      | .ct ρ' => I xs (unS tmp ρ')
      | o => Q o) : Q (exS P (.for_ tmp tg it body) ρ) := by
  simp only [exS, hi, out_ok]
  refine forL_rule I xs ρ h0 hn fun x xs ρ hx => ?_
  obtain ⟨ρ1, h2, h3⟩ := h x xs ρ hx
  rw [h2]
  exact h3
theorem lc_map {P : Pg} {own : List Nat} {tg : Tg} {it : It} {tt elt : E} {ρ : En} {α : Type} (e : α → Dat) (g : α → Dat) (xs : List α) (hi : evI P it ρ = .ok (xs.map e)) (hl : xs.length ≤ 1000000)
    (h : ∀ x ∈ xs, ∃ ρ1, setT tg (e x) (unS own ρ) = .ok ρ1 ∧ (ev P tt ρ1 >>= fun t => truD t) = .ok true ∧ ev P elt ρ1 = .ok (g x)) :
    ev P (.lc own tg it tt elt) ρ = .ok (.list (xs.map g)) := by
  simp only [ev, hi, ok_bind, List.length_map, hl, if_true]
  rw [lcL_map (g := g) xs fun x hx => ?_]
  · rfl
  · obtain ⟨ρ1, h1, h2, h3⟩ := h x hx
    rw [h1]
    simp only [ok_bind]
    cases q : ev P tt ρ1 with
    | ok t => rw [q] at h2; simp only [ok_bind] at h2; simp only [ok_bind, h2, h3, noX_ok]
    | exc c z => rw [q] at h2; cases h2
    | bad => rw [q] at h2; cases h2
theorem lc_filter {P : Pg} {own : List Nat} {tg : Tg} {it : It} {tt elt : E} {ρ : En} {α : Type} (e : α → Dat) (g : α → Dat) (p : α → Bool) (xs : List α) (hi : evI P it ρ = .ok (xs.map e)) (hl : xs.length ≤ 1000000)
    (h : ∀ x ∈ xs, ∃ ρ1, setT tg (e x) (unS own ρ) = .ok ρ1 ∧ (ev P tt ρ1 >>= fun t => truD t) = .ok (p x) ∧ (p x = true → ev P elt ρ1 = .ok (g x))) :
    ev P (.lc own tg it tt elt) ρ = .ok (.list ((xs.filter p).map g)) := by
  simp only [ev, hi, ok_bind, List.length_map, hl, if_true]
  rw [lcL_filter (g := g) (p := p) xs fun x hx => ?_]
  · rfl
  · obtain ⟨ρ1, h1, h2, h3⟩ := h x hx
    rw [h1]
    simp only [ok_bind]
    cases q : ev P tt ρ1 with
    | ok t =>
      rw [q] at h2
      simp only [ok_bind] at h2
      simp only [ok_bind, h2]
      cases hp : p x with
      | true => simp only [h3 hp, ok_bind, noX_ok]; rfl
      | false => rfl
    | exc c z => rw [q] at h2; cases h2
    | bad => rw [q] at h2; cases h2
/-- a loop, by a state of one's own -/
theorem forL_st {tmp : List Nat} {f : Dat → En → Out} {α β : Type} {e : α → Dat} (st : β → En) (I : List α → β → Prop) (Q : Out → Prop) : ∀ (xs : List α) (b : β) (ρ : En), I xs b → unS tmp ρ = st b → (∀ b, I [] b → Q (.nx (st b))) →
    (∀ x rest b, I (x :: rest) b → (∃ b' ρ', (f (e x) (st b) = .nx ρ' ∨ f (e x) (st b) = .ct ρ') ∧ unS tmp ρ' = st b' ∧ I rest b') ∨ (∃ d, f (e x) (st b) = .ret d ∧ Q (.ret d)) ∨ (∃ c z, f (e x) (st b) = .exc c z ∧ Q (.exc c z))) → Q (forL tmp f (xs.map e) ρ)
  | [], b, ρ, hi, h, hn, _ => by simp only [List.map_nil, forL, h]; exact hn b hi
  | x :: xs, b, ρ, hi, h, hn, h1 => by
    simp only [List.map_cons, forL, h]
    rcases h1 x xs b hi with ⟨b', ρ', hq, hu, hi'⟩ | ⟨d, hq, hQ⟩ | ⟨c, z, hq, hQ⟩
    · have z := forL_st st I Q xs b' ρ' hi' hu hn h1
      rcases hq with hq | hq
      · rw [hq]; exact z
      · rw [hq]; exact z
    · rw [hq]; exact hQ
    · rw [hq]; exact hQ
theorem for_st {P : Pg} {tmp : List Nat} {tg : Tg} {it : It} {body : Ss} {ρ : En} {α β : Type} (e : α → Dat) (xs : List α) (st : β → En) (I : List α → β → Prop) (Q : Out → Prop) (b : β) (hi : evI P it ρ = .ok (xs.map e)) (h0 : I xs b) (hu : unS tmp ρ = st b) (hn : ∀ b, I [] b → Q (.nx (st b)))
    (h : ∀ x rest b, I (x :: rest) b → ∃ ρ1, setT tg (e x) (st b) = .ok ρ1 ∧ ((∃ b' ρ', (exSs P body ρ1 = .nx ρ' ∨ exSs P body ρ1 = .ct ρ') ∧ unS tmp ρ' = st b' ∧ I rest b') ∨ (∃ d, exSs P body ρ1 = .ret d ∧ Q (.ret d)) ∨ (∃ c z, exSs P body ρ1 = .exc c z ∧ Q (.exc c z)))) :
    Q (exS P (.for_ tmp tg it body) ρ) := by
  simp only [exS, hi, out_ok]
  refine forL_st st I Q xs b ρ h0 hu hn fun x rest b hb => ?_
  obtain ⟨ρ1, h2, h3⟩ := h x rest b hb
  rw [h2]
  exact h3
theorem whil_st {P : Pg} {tmp : List Nat} {fuel : En → Nat} {c : E} {body : Ss} {ρ : En} {β : Type} (st : β → En) (I : β → Prop) (m : β → Nat) (Q : Out → Prop) (b : β) (h0 : I b) (hu : unS tmp ρ = st b) (hf : m b < fuel ρ)
    (h : ∀ b, I b → (tR (ev P c (st b)) = .ok false ∧ Q (.nx (st b))) ∨ (tR (ev P c (st b)) = .ok true ∧ ((∃ b' ρ', (exSs P body (st b) = .nx ρ' ∨ exSs P body (st b) = .ct ρ') ∧ unS tmp ρ' = st b' ∧ I b' ∧ m b' < m b) ∨ (∃ d, exSs P body (st b) = .ret d ∧ Q (.ret d)) ∨ (∃ c z, exSs P body (st b) = .exc c z ∧ Q (.exc c z))))) :
    Q (exS P (.whil fuel tmp c body) ρ) := by
  simp only [exS]
  generalize fuel ρ = n at hf
  induction n generalizing b ρ with
  | zero => omega
  | succ n ih =>
    simp only [whilL, hu]
    rcases h b h0 with ⟨q, hQ⟩ | ⟨q, hs⟩
    · have q' : (ev P c (st b) >>= fun d => truD d) = .ok false := q
      rw [q']
      exact hQ
    · have q' : (ev P c (st b) >>= fun d => truD d) = .ok true := q
      rw [q']
      simp only [out_ok]
      rcases hs with ⟨b', ρ', hq, hu', hi', hm⟩ | ⟨d, hq, hQ⟩ | ⟨c, z, hq, hQ⟩
      · have z := ih b' hi' hu' (by omega)
        rcases hq with hq | hq
        · rw [hq]; exact z
        · rw [hq]; exact z
      · rw [hq]; exact hQ
      · rw [hq]; exact hQ
def foundO {α : Type} (d : α → Dat) (ρ0 : En) : Option α → Out
  | some x => .ret (d x)
  | none => .nx ρ0
@[simp] theorem foundO_some {α : Type} (d : α → Dat) (ρ0 : En) (x : α) : foundO d ρ0 (some x) = .ret (d x) := nrfl rfl
@[simp] theorem foundO_none {α : Type} (d : α → Dat) (ρ0 : En) : foundO d ρ0 none = .nx ρ0 := nrfl rfl
/-- a loop that gives the first that fits -/
theorem for_find {P : Pg} {tmp : List Nat} {tg : Tg} {it : It} {body : Ss} {ρ : En} {α : Type} (e : α → Dat) (xs : List α) (p : α → Bool) (d : α → Dat) (ρ0 : En) (hi : evI P it ρ = .ok (xs.map e)) (hu : unS tmp ρ = ρ0)
    (h : ∀ x ∈ xs, ∃ ρ1, setT tg (e x) ρ0 = .ok ρ1 ∧ (p x = true → exSs P body ρ1 = .ret (d x)) ∧ (p x = false → ∃ ρ', (exSs P body ρ1 = .nx ρ' ∨ exSs P body ρ1 = .ct ρ') ∧ unS tmp ρ' = ρ0)) :
    exS P (.for_ tmp tg it body) ρ = foundO d ρ0 (xs.find? p) := by
  simp only [exS, hi, out_ok]
  clear hi
  induction xs generalizing ρ with
  | nil => simp only [List.map_nil, forL, hu, List.find?_nil, foundO]
  | cons x xs ih =>
    simp only [List.map_cons, forL, hu]
    obtain ⟨ρ1, h1, h2, h3⟩ := h x (by simp)
    rw [h1]
    simp only [out_ok]
    cases hp : p x with
    | true =>
      rw [h2 hp, List.find?_cons_of_pos hp]
      rfl
    | false =>
      obtain ⟨ρ', hq, hu'⟩ := h3 hp
      rw [List.find?_cons_of_neg (by simp [hp])]
      have z := ih hu' fun y hy => h y (by simp [hy])
      rcases hq with hq | hq
      · rw [hq]; exact z
      · rw [hq]; exact z
/-- a loop that leaves nothing behind -/
theorem for_nop {P : Pg} {tmp : List Nat} {tg : Tg} {it : It} {body : Ss} {ρ ρ0 : En} {α : Type} (e : α → Dat) (xs : List α) (hi : evI P it ρ = .ok (xs.map e)) (hu : unS tmp ρ = ρ0)
    (h : ∀ x ∈ xs, ∃ ρ1, setT tg (e x) ρ0 = .ok ρ1 ∧ ∃ ρ', (exSs P body ρ1 = .nx ρ' ∨ exSs P body ρ1 = .ct ρ') ∧ unS tmp ρ' = ρ0) : exS P (.for_ tmp tg it body) ρ = .nx ρ0 := by
  have z := for_any (P := P) (body := body) e xs (fun _ => false) .none ρ0 hi hu fun x hx => by
    obtain ⟨ρ1, h1, h2⟩ := h x hx
    exact ⟨ρ1, h1, by rw [if_neg Bool.false_ne_true]; exact h2⟩
  have e : xs.any (fun _ => false) = false := by simp
  rw [e] at z
  exact z
end NW
end

section
set_option maxHeartbeats 4000000
/-! Texts as lists of signs; more of plain maths. -/
namespace NW
open PySem PySem.Spec PyProof.Rows L2
theorem rngL_map (a : Int) (n : Nat) : rngL a n = (List.range n).map fun i => PyData.int (a + (i : Nat)) := rfl
theorem cut_map {α β : Type} (f : α → β) (xs : List α) (lo hi : Option Int) : cutL (xs.map f) lo hi = (cutL xs lo hi).map f := by
  simp [cutL, List.map_take, List.map_drop]
theorem atI_some {α : Type} (xs : List α) (i : Int) (d : α) (h : 0 ≤ i) (h' : i < xs.length) : atI xs i = some (xs.getD i.toNat d) := by
  obtain ⟨n, rfl⟩ := Int.eq_ofNat_of_zero_le h
  rw [atI_nat]
  have hn : n < xs.length := by omega
  simp [hn]
theorem str_ext {a b : Str} (h : a.cps.toList = b.cps.toList) : a = b := by
  cases a; cases b
  simp at h
  simp [h]
theorem str_cat (a b : Str) : (a ++ b).cps.toList = a.cps.toList ++ b.cps.toList := by
  show (a.cps ++ b.cps).toList = _
  simp
theorem str_len (a : Str) : a.length = a.cps.toList.length := by
  simp [Str.length]
theorem str_cat_len (a b : Str) : (a ++ b).length = a.length + b.length := by
  simp [str_len, str_cat]
/-- a text of signs -/
def tx (l : List Nat) : Str := ⟨l.toArray⟩
@[simp] theorem tx_list (l : List Nat) : (tx l).cps.toList = l := rfl
@[simp] theorem tx_len (l : List Nat) : (tx l).length = l.length := by simp [str_len]
theorem tx_cat (a b : List Nat) : tx a ++ tx b = tx (a ++ b) := str_ext (by simp [str_cat])
theorem tx_of (s : Str) : tx s.cps.toList = s := str_ext rfl
theorem tx_inj {a b : List Nat} (h : tx a = tx b) : a = b := by
  have := congrArg (fun s : Str => s.cps.toList) h
  simpa using this
theorem cutS_tx (l : List Nat) (lo hi : Option Int) : cutS (tx l) lo hi = tx (cutL l lo hi) := by
  unfold cutS cutL
  simp only [tx_len, tx_list]
  rfl
theorem sIx_neg (n d k : Nat) (h : 0 < k) : HT.sIx n d (some (-(k : Int))) = n - k := by
  unfold HT.sIx
  simp only
  rw [if_pos (by omega)]
  omega
theorem cut_toneg {α : Type} (xs : List α) (k : Nat) (h : 0 < k) : cutL xs none (some (-(k : Int))) = xs.take (xs.length - k) := by
  unfold cutL
  rw [sIx_neg _ _ _ h]
  simp [HT.sIx]
theorem cut_from1 {α : Type} (xs : List α) (k : Nat) : cutL xs (some ((k : Int) + 1)) none = xs.drop (k + 1) := cut_from xs (k + 1)
theorem cut_mid1 {α : Type} (xs : List α) (j k : Nat) : cutL xs (some (j : Int)) (some ((k : Int) + 1)) = (xs.drop j).take (k + 1 - j) := cut_mid xs j (k + 1)
theorem atI_nat1 {α : Type} (xs : List α) (i : Nat) : atI xs ((i : Int) + 1) = xs[i + 1]? := atI_nat xs (i + 1)

/-! ### data that tell their things -/
structure Enc {α : Type} [DecidableEq α] (e : α → Dat) (k : Nat) : Prop where
  eqv : ∀ a b, PyData.eqv (e a) (e b) = decide (a = b)
  ndc : ∀ a, ndc (e a) = true
  dep : ∀ a, PyData.depth (e a) ≤ k
section
variable {α : Type} [DecidableEq α] {e : α → Dat} {k : Nat}
theorem Enc.sh (E : Enc e k) (h : k ≤ 100) (a : α) : shOk (e a) = true := by
  have := E.dep a
  simp only [shOk, E.ndc a, Bool.true_and]
  exact decide_eq_true (by omega)
theorem Enc.eq (E : Enc e k) (h : k ≤ 100) (a b : α) : cmpD .eq (e a) (e b) = .ok (decide (a = b)) := by rw [cmpEq _ _ (E.sh h a) (E.sh h b), E.eqv]
theorem Enc.ne (E : Enc e k) (h : k ≤ 100) (a b : α) : cmpD .ne (e a) (e b) = .ok (!decide (a = b)) := by rw [cmpNe _ _ (E.sh h a) (E.sh h b), E.eqv]
theorem Enc.all (E : Enc e k) : ∀ a b : List α, PyData.eqvAll (a.map e) (b.map e) = decide (a = b)
  | [], [] => by simp [PyData.eqvAll]
  | [], _ :: _ => by simp [PyData.eqvAll]
  | _ :: _, [] => by simp [PyData.eqvAll]
  | x :: a, y :: b => by
    simp only [List.map_cons, PyData.eqvAll, E.eqv, E.all a b, List.cons.injEq]
    by_cases h : x = y <;> by_cases h' : a = b <;> simp [h, h']
theorem Enc.deps (E : Enc e k) : ∀ a : List α, PyData.depthAll (a.map e) ≤ k
  | [] => by simp [PyData.depthAll]
  | x :: a => by
    have h1 := E.deps a
    have h2 := E.dep x
    simp only [List.map_cons, PyData.depthAll]
    omega
theorem Enc.ndcs (E : Enc e k) : ∀ a : List α, NW.ndcs (a.map e) = true
  | [] => by simp [NW.ndcs]
  | x :: a => by simp [NW.ndcs, E.ndc x, E.ndcs a]
theorem Enc.lst (E : Enc e k) : Enc (fun a : List α => PyData.list (a.map e)) (k + 1) :=
  ⟨fun a b => by simp only [PyData.eqv]; exact E.all a b, fun a => by simp only [NW.ndc]; exact E.ndcs a, fun a => by
    have := E.deps a
    simp only [PyData.depth]
    omega⟩
theorem Enc.tup (E : Enc e k) : Enc (fun a : List α => PyData.tuple (a.map e)) (k + 1) :=
  ⟨fun a b => by simp only [PyData.eqv]; exact E.all a b, fun a => by simp only [NW.ndc]; exact E.ndcs a, fun a => by
    have := E.deps a
    simp only [PyData.depth]
    omega⟩
theorem Enc.inD (E : Enc e k) (x : α) : ∀ xs : List α, [i : Decidable (x ∈ xs)] → NW.inD (e x) (xs.map e) = @decide (x ∈ xs) i
  | [], i => by simp [NW.inD]
  | y :: ys, i => by
    simp only [List.map_cons, NW.inD, E.eqv, E.inD x ys]
    by_cases h : x = y
    · subst h; simp
    · have : ¬ y = x := fun z => h z.symm
      simp [h, this]
theorem Enc.isin (E : Enc e k) (h : k + 1 ≤ 100) (x : α) (xs : List α) [i : Decidable (x ∈ xs)] : cmpD .isin (e x) (.list (xs.map e)) = .ok (@decide (x ∈ xs) i) := by
  have h1 := E.sh (by omega) x
  have h2 := E.lst.sh h xs
  simp only [cmpD, inB]
  rw [h1, h2, E.inD]
  rfl
theorem Enc.nin (E : Enc e k) (h : k + 1 ≤ 100) (x : α) (xs : List α) [i : Decidable (x ∈ xs)] : cmpD .nin (e x) (.list (xs.map e)) = .ok (!@decide (x ∈ xs) i) := by
  have h1 := E.sh (by omega) x
  have h2 := E.lst.sh h xs
  simp only [cmpD, inB]
  rw [h1, h2, E.inD]
  rfl
end
theorem encS : Enc PyData.str 0 := ⟨fun a b => eqv_str a b, fun _ => rfl, fun _ => by simp [PyData.depth]⟩
theorem encI : Enc PyData.int 0 := ⟨fun a b => eqv_int a b, fun _ => rfl, fun _ => by simp [PyData.depth]⟩
theorem encN : Enc (fun a : List Str => PyData.tuple (a.map .str)) 1 := encS.tup

/-! ### numbers written -/
def numS (i : Int) : Str := Str.ofString (toString i)
theorem num_len (i : Int) (k : Nat) (h0 : 0 ≤ i) (hk : 0 < k) (h : i.toNat < 10 ^ k) : (numS i).length ≤ k := by
  unfold numS
  obtain ⟨n, rfl⟩ := Int.eq_ofNat_of_zero_le h0
  have h' : n < 10 ^ k := by simpa using h
  have e : (Str.ofString (toString (n : Int))).cps.toList = (Nat.toDigits 10 n).map Char.toNat := PySem.W.KIN.signs_num n
  rw [str_len, e, List.length_map]
  exact (Nat.length_toDigits_le_iff (by decide) hk).2 h'
theorem bi_str (i : Int) (h0 : 0 ≤ i) (h : i < 10 ^ 40) : biD .str [.int i] = .ok (.str (numS i)) := by
  unfold numS
  have hl : i.natAbs.log2 < 1920 := by
    by_cases z : i.natAbs = 0
    · rw [z]; decide
    · have : i.natAbs < 2 ^ 140 := by
        have e : (10 : Int) ^ 40 ≤ 2 ^ 140 := by decide +kernel
        omega
      exact Nat.lt_trans ((Nat.log2_lt z).2 this) (by decide)
  simp only [biD, if_pos hl]
theorem pow_30 : binD .pow (.int 10) (.int 30) = .ok (.int 1000000000000000000000000000000) := by
  simp only [binD]
  rw [if_pos (by decide)]
  rfl
theorem pow_9 : binD .pow (.int 10) (.int 9) = .ok (.int 1000000000) := by
  simp only [binD]
  rw [if_pos (by decide)]
  rfl
theorem bi_str30 (c : Int) : biD .str [.int (c % 1000000000000000000000000000000)] = .ok (.str (numS (c % 1000000000000000000000000000000))) := bi_str _ (by omega) (by
  have : (1000000000000000000000000000000 : Int) ≤ 10 ^ 40 := by decide +kernel
  omega)
theorem num_len30 (c : Int) : (numS (c % 1000000000000000000000000000000)).length ≤ 40 := num_len _ 40 (by omega) (by decide) (by
  have : (1000000000000000000000000000000 : Nat) ≤ 10 ^ 40 := by decide +kernel
  omega)
theorem depthAll_le {k : Nat} : ∀ ds : List Dat, (∀ d ∈ ds, PyData.depth d ≤ k) → PyData.depthAll ds ≤ k
  | [], _ => by simp [PyData.depthAll]
  | d :: ds, h => by
    have h1 := depthAll_le ds fun x hx => h x (by simp [hx])
    have h2 := h d (by simp)
    simp only [PyData.depthAll]
    omega
theorem depth_tup {k : Nat} (ds : List Dat) (h : ∀ d ∈ ds, PyData.depth d ≤ k) : PyData.depth (.tuple ds) ≤ k + 1 := by
  have := depthAll_le ds h
  simp only [PyData.depth]
  omega
theorem depth_lst {k : Nat} (ds : List Dat) (h : ∀ d ∈ ds, PyData.depth d ≤ k) : PyData.depth (.list ds) ≤ k + 1 := by
  have := depthAll_le ds h
  simp only [PyData.depth]
  omega
end NW
end

section
set_option maxHeartbeats 4000000
/-! Texts made small or great, cut at a sign. -/
namespace NW
open PySem PySem.Spec PyProof.Rows L2
def lowN (c : Nat) : Nat := if 65 ≤ c ∧ c ≤ 90 then c + 32 else c
def upN (c : Nat) : Nat := if 97 ≤ c ∧ c ≤ 122 then c - 32 else c
theorem lowOf_ascii (c : Nat) (h : c < 128) : Unicode.lowerOf c = [lowN c] := (by decide +kernel : ∀ c, c < 128 → Unicode.lowerOf c = [lowN c]) c h
theorem upOf_ascii (c : Nat) (h : c < 128) : Unicode.upperOf c = [upN c] := (by decide +kernel : ∀ c, c < 128 → Unicode.upperOf c = [upN c]) c h
theorem flat_one (g : Nat → Nat) : ∀ l : List Nat, (l.map fun c => [g c]).flatten = l.map g
  | [] => rfl
  | c :: l => by simp [flat_one g l]
theorem placed_map (l : List Nat) (f : Nat → Nat → List Nat) (g : Nat → Nat) (h : ∀ i c, l[i]? = some c → f i c = [g c]) : (⟨placed (tx l) f⟩ : Str) = tx (l.map g) := by
  apply str_ext
  show (placed (tx l) f).toList = l.map g
  unfold placed
  rw [Array.toList_flatten, Array.toList_mapIdx]
  have e : (List.mapIdx (fun i c => (f i c).toArray) (tx l).cps.toList).map Array.toList = l.map fun c => [g c] := by
    rw [tx_list]
    apply List.ext_getElem?
    intro i
    simp only [List.getElem?_map, List.getElem?_mapIdx]
    cases q : l[i]? with
    | none => rfl
    | some c => simp [h i c q]
  rw [e]
  exact flat_one g l
theorem lower_tx (l : List Nat) (h : ∀ c ∈ l, c < 128) : Txt.lower (tx l) = tx (l.map lowN) := by
  refine placed_map l _ lowN fun i c q => ?_
  have hc := h c (List.mem_of_getElem? q)
  have e : (tx l).cps[i]? = some c := by simpa [tx] using q
  unfold Unicode.lowerAt
  rw [e]
  have z : (c == 0x3A3) = false := by
    have : c ≠ 0x3A3 := by omega
    simpa using this
  simp only [z, Bool.false_and, Bool.false_eq_true, if_false]
  exact lowOf_ascii c hc
theorem upper_tx (l : List Nat) (h : ∀ c ∈ l, c < 128) : Txt.upper (tx l) = tx (l.map upN) :=
  placed_map l _ upN fun i c q => upOf_ascii c (h c (List.mem_of_getElem? q))
theorem m0_lower (l : List Nat) (h : ∀ c ∈ l, c < 128) (hl : l.length ≤ 1000000) : m0D .lower (.str (tx l)) = .ok (.str (tx (l.map lowN))) := by
  simp only [m0D, tx_len, if_pos hl, lower_tx l h]
theorem m0_upper (l : List Nat) (h : ∀ c ∈ l, c < 128) (hl : l.length ≤ 1000000) : m0D .upper (.str (tx l)) = .ok (.str (tx (l.map upN))) := by
  simp only [m0D, tx_len, if_pos hl, upper_tx l h]
/-- a text parted at a sign -/
def splitL (c : Nat) : List Nat → List (List Nat)
  | [] => [[]]
  | x :: l => if x = c then [] :: splitL c l else match splitL c l with
    | [] => [[x]]
    | w :: r => (x :: w) :: r
def joinL (c : Nat) : List (List Nat) → List Nat
  | [] => []
  | [w] => w
  | w :: v :: r => w ++ c :: joinL c (v :: r)
theorem splitL_free (c : Nat) : ∀ (l : List Nat), (∀ x ∈ l, x ≠ c) → splitL c l = [l]
  | [], _ => rfl
  | x :: l, h => by
    unfold splitL
    rw [if_neg (h x (by simp)), splitL_free c l fun y hy => h y (by simp [hy])]
theorem splitL_app (c : Nat) : ∀ (w l : List Nat), (∀ x ∈ w, x ≠ c) → splitL c (w ++ c :: l) = w :: splitL c l
  | [], l, _ => by
    rw [List.nil_append]
    conv => lhs; unfold splitL
    rw [if_pos rfl]
  | x :: w, l, h => by
    rw [List.cons_append]
    conv => lhs; unfold splitL
    rw [if_neg (h x (by simp)), splitL_app c w l fun y hy => h y (by simp [hy])]
theorem splitL_join (c : Nat) : ∀ ps : List (List Nat), ps ≠ [] → (∀ w ∈ ps, ∀ x ∈ w, x ≠ c) → splitL c (joinL c ps) = ps
  | [], h, _ => absurd rfl h
  | [w], _, f => splitL_free c w (f w (by simp))
  | w :: v :: r, _, f => by
    unfold joinL
    rw [splitL_app c w _ (f w (by simp)), splitL_join c (v :: r) (by simp) fun u hu => f u (by simp only [List.mem_cons] at hu ⊢; exact .inr hu)]
theorem splitL_ne (c : Nat) : ∀ l : List Nat, splitL c l ≠ []
  | [] => by simp [splitL]
  | x :: l => by
    unfold splitL
    split
    · simp
    · split <;> simp
theorem str_join (c : Nat) : ∀ S : List Str, (Str.join (tx [c]) S).cps.toList = joinL c (S.map fun s => s.cps.toList)
  | [] => rfl
  | [s] => rfl
  | s :: t :: r => by
    show (s ++ tx [c] ++ Str.join (tx [c]) (t :: r)).cps.toList = _
    rw [str_cat, str_cat, str_join c (t :: r)]
    simp [joinL]
theorem split_tx (c : Nat) (l : List Nat) : Txt.split (tx l) (tx [c]) = (splitL c l).map tx := by
  have h1 : (Str.join (tx [c]) (Txt.split (tx l) (tx [c]))).cps.toList = l := by rw [StrLaws.join_split, tx_list]
  have h2 := StrLaws.split_free (tx l) c
  have h3 := PyProof.Rows.split_pos (tx l) (tx [c])
  have h2' : ∀ p ∈ Txt.split (tx l) (tx [c]), c ∉ p.cps.toList := h2
  generalize Txt.split (tx l) (tx [c]) = S at *
  rw [str_join] at h1
  have e := splitL_join c (S.map fun s => s.cps.toList) (fun z => by
    have := congrArg List.length z
    simp at this
    rw [this] at h3
    simp at h3) fun w hw x hx hxc => by
      obtain ⟨s, hs, rfl⟩ := List.mem_map.mp hw
      subst hxc
      exact h2' s hs hx
  rw [h1] at e
  rw [e, List.map_map]
  have : ∀ s : Str, (tx ∘ fun s => s.cps.toList) s = s := fun s => tx_of s
  conv => lhs; rw [← List.map_id S]
  exact List.map_congr_left fun s _ => (this s).symm
theorem m1_split (c : Nat) (l : List Nat) (h : l.length ≤ 1000000) : m1D .split (.str (tx l)) (.str (tx [c])) = .ok (.list ((splitL c l).map fun w => .str (tx w))) := by
  have e : (tx [c]).length ≠ 0 ∧ (tx l).length ≤ 1000000 := ⟨by simp, by simpa using h⟩
  simp only [m1D]
  rw [if_pos e, split_tx, List.map_map]
  rfl
theorem endswith_tx (c : Nat) (l : List Nat) : Txt.endswith (tx l) (tx [c]) = decide (l.getLast? = some c) := by
  unfold Txt.endswith Builtin.Str.subAt
  simp only [tx_len, List.length_cons, List.length_nil]
  by_cases h : l = []
  · subst h
    simp
  · have hl : 0 < l.length := List.length_pos_iff.mpr h
    have e1 : decide (0 + (0 + 1) ≤ l.length) = true := decide_eq_true (by omega)
    rw [e1, Bool.true_and]
    have e2 : ((tx l).cps.extract (l.length - (0 + 1)) (l.length - (0 + 1) + (0 + 1))).toList = [l.getLast h] := by
      rw [Array.toList_extract]
      show List.extract l _ _ = _
      rw [List.extract_eq_drop_take]
      have : l.length - (0 + 1) + (0 + 1) - (l.length - (0 + 1)) = 1 := by omega
      have ed : l.drop (l.length - 1) = [l.getLast h] := by
        rw [List.drop_eq_getElem_cons (by omega : l.length - 1 < l.length), List.drop_eq_nil_of_le (by omega), List.getLast_eq_getElem]
      rw [this, Nat.zero_add, ed]
      simp
    rw [List.getLast?_eq_some_getLast h, Bool.eq_iff_iff]
    constructor
    · intro q
      have q := eq_of_beq q
      have : ((tx l).cps.extract (l.length - (0 + 1)) (l.length - (0 + 1) + (0 + 1))).toList = (tx [c]).cps.toList := by rw [q]
      rw [e2, tx_list] at this
      simp at this
      simp [this]
    · intro q
      have q := of_decide_eq_true q
      simp at q
      refine beq_iff_eq.mpr ?_
      apply Array.toList_inj.mp
      rw [e2, q]
      rfl
theorem m1_ends (c : Nat) (l : List Nat) : m1D .endswith (.str (tx l)) (.str (tx [c])) = .ok (.bool (decide (l.getLast? = some c))) := by
  simp only [m1D, endswith_tx]
theorem splitL_len (c : Nat) : ∀ l : List Nat, (splitL c l).length ≤ l.length + 1
  | [] => by simp [splitL]
  | x :: l => by
    have := splitL_len c l
    unfold splitL
    split
    · simp; omega
    · have hne := splitL_ne c l
      cases q : splitL c l with
      | nil => simp
      | cons w r => rw [q] at this; simp at this ⊢; omega
theorem splitL_mem (c : Nat) : ∀ (l : List Nat), ∀ w ∈ splitL c l, w.length ≤ l.length ∧ (∀ x ∈ w, x ∈ l ∧ x ≠ c)
  | [], w, h => by
    simp [splitL] at h
    subst h
    simp
  | x :: l, w, h => by
    unfold splitL at h
    split at h
    · rcases List.mem_cons.mp h with rfl | h
      · simp
      · have := splitL_mem c l w h
        refine ⟨by simp; omega, fun y hy => ⟨by simp [(this.2 y hy).1], (this.2 y hy).2⟩⟩
    · rename_i hx
      have hne := splitL_ne c l
      cases q : splitL c l with
      | nil => exact absurd q hne
      | cons v r =>
        rw [q] at h
        rcases List.mem_cons.mp h with rfl | h
        · have := splitL_mem c l v (by rw [q]; simp)
          refine ⟨by simp; omega, fun y hy => ?_⟩
          rcases List.mem_cons.mp hy with rfl | hy
          · exact ⟨by simp, hx⟩
          · exact ⟨by simp [(this.2 y hy).1], (this.2 y hy).2⟩
        · have := splitL_mem c l w (by rw [q]; simp [h])
          exact ⟨by simp; omega, fun y hy => ⟨by simp [(this.2 y hy).1], (this.2 y hy).2⟩⟩
theorem tx_eq (a b : List Nat) : (tx a = tx b) ↔ a = b := ⟨tx_inj, fun h => by rw [h]⟩
theorem nin_ch (c : Nat) (s : Str) : cmpD .nin (.str (tx [c])) (.str s) = .ok (!decide (c ∈ s.cps.toList)) := rfl
theorem items_tx (l : List Nat) : itemsD (.str (tx l)) = .ok (l.map fun c => PyData.str (tx [c])) := rfl
theorem len_tx (l : List Nat) (h : l.length ≤ 1000000) : biD .len [.str (tx l)] = .ok (.int l.length) := by
  simp only [biD, tx_len]
  rw [if_pos h]
theorem all_any {α : Type} (p : α → Bool) (l : List α) : l.all p = !l.any fun c => !p c := by
  induction l with
  | nil => rfl
  | cons x l ih => simp [ih]
theorem sl_dropLast (t : List Nat) (h : t.length ≤ 1000000) : slD (.str (tx t)) none (some (-1)) = .ok (.str (tx t.dropLast)) := by
  have e : cutL t none (some (-1)) = t.dropLast := by
    have : cutL t none (some (-((1 : Nat) : Int))) = t.take (t.length - 1) := cut_toneg t 1 (by omega)
    rw [List.dropLast_eq_take]
    exact this
  simp only [slD, tx_len, if_pos h, cutS_tx, e]
theorem sl_dropLastT (n : List Dat) : slD (.tuple n) none (some (-1)) = .ok (.tuple n.dropLast) := by
  have e : cutL n none (some (-1)) = n.dropLast := by
    have : cutL n none (some (-((1 : Nat) : Int))) = n.take (n.length - 1) := cut_toneg n 1 (by omega)
    rw [List.dropLast_eq_take]
    exact this
  simp only [slD, e]
theorem ix_last (n : List Dat) (d : Dat) (h : n.getLast? = some d) : ixD (.tuple n) (.int (-1)) = .ok d := by
  have hne : n ≠ [] := fun e => by subst e; cases h
  have hl : 0 < n.length := List.length_pos_iff.mpr hne
  have e : L2.atI n (-1) = some d := by
    unfold L2.atI L2.ixN
    rw [if_neg (by omega), if_pos (by omega)]
    have e2 : (-1 + (n.length : Int)).toNat = n.length - 1 := by omega
    simp only [Option.bind_some, e2]
    rw [← h, List.getLast?_eq_getElem?]
  simp only [ixD, e]
/-- a loop that raises at the first that p holds of -/
theorem for_raise {P : Pg} {tmp : List Nat} {tg : Tg} {it : It} {body : Ss} {ρ : En} {α : Type} (e : α → Dat) (xs : List α) (p : α → Bool) (c : Str) (ρ0 : En) (hi : evI P it ρ = .ok (xs.map e)) (hu : unS tmp ρ = ρ0)
    (h : ∀ x ∈ xs, ∃ ρ1, setT tg (e x) ρ0 = .ok ρ1 ∧ (p x = true → exSs P body ρ1 = .exc c none) ∧ (p x = false → ∃ ρ', (exSs P body ρ1 = .nx ρ' ∨ exSs P body ρ1 = .ct ρ') ∧ unS tmp ρ' = ρ0)) :
    exS P (.for_ tmp tg it body) ρ = cond (xs.any p) (.exc c none) (.nx ρ0) := by
  refine for_st e xs (fun _ : Unit => ρ0) (fun rest _ => xs.any p = rest.any p ∧ ∀ x ∈ rest, x ∈ xs) (fun o => o = cond (xs.any p) (.exc c none) (.nx ρ0)) () hi ⟨rfl, fun _ h => h⟩ hu (fun _ h => by rw [h.1]; rfl) fun x rest _ hI => ?_
  obtain ⟨ρ1, h1, h2, h3⟩ := h x (hI.2 x (by simp))
  refine ⟨ρ1, h1, ?_⟩
  cases q : p x with
  | true =>
    refine .inr (.inr ⟨c, none, h2 q, ?_⟩)
    rw [hI.1, List.any_cons, q]
    rfl
  | false =>
    obtain ⟨ρ', h4, h5⟩ := h3 q
    refine .inl ⟨(), ρ', h4, h5, ?_, fun y hy => hI.2 y (by simp [hy])⟩
    rw [hI.1, List.any_cons, q, Bool.false_or]
end NW
end

section
set_option maxHeartbeats 4000000
namespace NK44
open PySem PySem.Spec PyProof.Rows L2 NW
/-- at_or_beneath(name, top) slots: ['name', 'top'] -/
def b_p_at_or_beneath : Ss := .cons (.ret (.cmp .eq (.sl (.var 0) .no (.bi .len (.cons (.var 1) .nil))) (.var 1))) <|
  .nil
/-- above(name) slots: ['name', 'many'] -/
def e0_p_above : E := .lc [1] (.nm 1) (.rng1 (.bin .add (.bi .len (.cons (.var 0) .nil)) (.int 1))) (.bl true) (.sl (.var 0) .no (.var 1))
def b_p_above : Ss := .cons (.ret (e0_p_above)) <|
  .nil
/-- rows_at(zone, name) slots: ['zone', 'name', 'row'] -/
def e0_p_rows_at : E := .lc [2] (.nm 2) (.seq (.ix (.var 0) (.int 2))) (.cmp .eq (.ix (.var 2) (.int 0)) (.var 1)) (.var 2)
def b_p_rows_at : Ss := .cons (.ret (e0_p_rows_at)) <|
  .nil
/-- down_at(zone, name) slots: ['zone', 'name', 'row'] -/
def v0_p_down_at : Ss := .cons (.ifs (.cmp .eq (.ix (.var 2) (.int 2)) (.str "down"))
    (.cons (.ret (.var 2)) <|
    .nil)
    (.nil)) <|
  .nil
def w0_p_down_at : S := .for_ [2] (.nm 2) (.seq (.cal 2 (.cons (.var 0) (.cons (.var 1) .nil)))) v0_p_down_at
def b_p_down_at : Ss := .cons (w0_p_down_at) <|
  .cons (.ret (.non)) <|
  .nil
/-- cut_of(zone, name) slots: ['zone', 'name', 'part'] -/
def v0_p_cut_of : Ss := .cons (.ifs (.and (.cmp .gt (.bi .len (.cons (.var 2) .nil)) (.bi .len (.cons (.ix (.var 0) (.int 0)) .nil))) (.cmp .ntN (.cal 3 (.cons (.var 0) (.cons (.var 2) .nil))) (.non)))
    (.cons (.ret (.var 2)) <|
    .nil)
    (.nil)) <|
  .nil
def w0_p_cut_of : S := .for_ [2] (.nm 2) (.seq (.cal 1 (.cons (.var 1) .nil))) v0_p_cut_of
def b_p_cut_of : Ss := .cons (w0_p_cut_of) <|
  .cons (.ret (.non)) <|
  .nil
/-- stands(zone, name) slots: ['zone', 'name', 'row'] -/
def e0_p_stands : E := .lc [2] (.nm 2) (.seq (.ix (.var 0) (.int 2))) (.bl true) (.cal 0 (.cons (.ix (.var 2) (.int 0)) (.cons (.var 1) .nil)))
def b_p_stands : Ss := .cons (.ifs (.cmp .eq (.var 1) (.ix (.var 0) (.int 0)))
    (.cons (.ret (.bl true)) <|
    .nil)
    (.nil)) <|
  .cons (.ret (.bi .any (.cons (e0_p_stands) .nil))) <|
  .nil
/-- doors_at(zone, cut, house) slots: ['zone', 'cut', 'house', 'row'] -/
def e0_p_doors_at : E := .lc [3] (.nm 3) (.seq (.cal 2 (.cons (.var 0) (.cons (.var 2) .nil)))) (.cmp .eq (.ix (.var 3) (.int 2)) (.str "door")) (.var 3)
def b_p_doors_at : Ss := .cons (.ifs (.not (.cal 0 (.cons (.var 2) (.cons (.var 1) .nil))))
    (.cons (.ret (.lst .nil)) <|
    .nil)
    (.nil)) <|
  .cons (.ret (e0_p_doors_at)) <|
  .nil
/-- told_down(zone, cut) slots: ['zone', 'cut', 'row', 'doors', 'life', 'door'] -/
def e0_p_told_down : E := .lc [5] (.nm 5) (.seq (.var 3)) (.bl true) (.ix (.var 5) (.int 1))
def e1_p_told_down : E := .lc [5] (.nm 5) (.seq (.var 3)) (.bl true) (.ix (.var 5) (.int 3))
def b_p_told_down : Ss := .cons (.set 2 (.cal 3 (.cons (.var 0) (.cons (.var 1) .nil)))) <|
  .cons (.set 3 (.cal 6 (.cons (.var 0) (.cons (.var 1) (.cons (.ix (.var 2) (.int 3)) .nil))))) <|
  .cons (.set 4 (.bi .min1 (.cons (.bin .add (.lst (.cons (.ix (.var 2) (.int 1)) .nil)) (e0_p_told_down)) .nil))) <|
  .cons (.ret (.tup (.cons (.str "down") (.cons (.var 1) (.cons (.ix (.var 2) (.int 3)) (.cons (.bi .sorted (.cons (e1_p_told_down) .nil)) (.cons (.var 4) .nil))))))) <|
  .nil
/-- look_at(zone, name) slots: ['zone', 'name', 'part'] -/
def v0_p_look_at : Ss := .cons (.set 2 (.sl (.var 2) .no (.neg (.int 1)))) <|
  .nil
def w0_p_look_at : S := .whil (fun _ => 1000) [] (.not (.cal 5 (.cons (.var 0) (.cons (.var 2) .nil)))) v0_p_look_at
def b_p_look_at : Ss := .cons (.ifs (.cal 5 (.cons (.var 0) (.cons (.var 1) .nil)))
    (.cons (.ret (.var 1)) <|
    .nil)
    (.nil)) <|
  .cons (.set 2 (.sl (.var 1) .no (.neg (.int 1)))) <|
  .cons (w0_p_look_at) <|
  .cons (.ret (.bin .add (.var 2) (.tup (.cons (.str "*") .nil)))) <|
  .nil
/-- told_by(zone, rows, kind) slots: ['zone', 'rows', 'kind', 'row', 'found'] -/
def v0_p_told_by : Ss := .cons (.ifs (.cmp .eq (.ix (.var 3) (.int 2)) (.str "else"))
    (.cons (.ret (.tup (.cons (.str "else") (.cons (.ix (.var 3) (.int 3)) (.cons (.ix (.var 3) (.int 1)) .nil))))) <|
    .nil)
    (.nil)) <|
  .nil
def w0_p_told_by : S := .for_ [3] (.nm 3) (.seq (.var 1)) v0_p_told_by
def e0_p_told_by : E := .lc [3] (.nm 3) (.seq (.var 1)) (.cmp .eq (.ix (.var 3) (.int 2)) (.var 2)) (.var 3)
def e1_p_told_by : E := .lc [3] (.nm 3) (.seq (.var 4)) (.bl true) (.ix (.var 3) (.int 3))
def e2_p_told_by : E := .lc [3] (.nm 3) (.seq (.var 4)) (.bl true) (.ix (.var 3) (.int 1))
def b_p_told_by : Ss := .cons (w0_p_told_by) <|
  .cons (.set 4 (e0_p_told_by)) <|
  .cons (.ifs (.cmp .eq (.var 4) (.lst .nil))
    (.cons (.ret (.tup (.cons (.str "empty") (.cons (.ix (.var 0) (.int 1)) .nil)))) <|
    .nil)
    (.nil)) <|
  .cons (.ret (.tup (.cons (.str "rows") (.cons (.bi .sorted (.cons (e1_p_told_by) .nil)) (.cons (.bi .min1 (.cons (e2_p_told_by) .nil)) .nil))))) <|
  .nil
/-- told(zone, name, kind) slots: ['zone', 'name', 'kind', 'cut', 'look', 'rows'] -/
def b_p_told : Ss := .cons (.set 3 (.cal 4 (.cons (.var 0) (.cons (.var 1) .nil)))) <|
  .cons (.ifs (.cmp .ntN (.var 3) (.non))
    (.cons (.ret (.cal 7 (.cons (.var 0) (.cons (.var 3) .nil)))) <|
    .nil)
    (.nil)) <|
  .cons (.set 4 (.cal 8 (.cons (.var 0) (.cons (.var 1) .nil)))) <|
  .cons (.set 5 (.cal 2 (.cons (.var 0) (.cons (.var 4) .nil)))) <|
  .cons (.ifs (.and (.cmp .eq (.var 5) (.lst .nil)) (.cmp .ne (.var 4) (.var 1)))
    (.cons (.ret (.tup (.cons (.str "none") (.cons (.ix (.var 0) (.int 1)) .nil)))) <|
    .nil)
    (.nil)) <|
  .cons (.ret (.cal 9 (.cons (.var 0) (.cons (.var 5) (.cons (.var 2) .nil))))) <|
  .nil
/-- zones_at(houses, door) slots: ['houses', 'door'] -/
def b_p_zones_at : Ss := .cons (.ret (.dget (.var 0) (.var 1) (.lst .nil))) <|
  .nil
/-- kept(houses, door, top) slots: ['houses', 'door', 'top', 'zone'] -/
def v0_p_kept : Ss := .cons (.ifs (.cmp .eq (.ix (.var 3) (.int 0)) (.var 2))
    (.cons (.ret (.tup (.cons (.ix (.var 3) (.int 0)) (.cons (.ix (.var 3) (.int 1)) (.cons (.bi .list (.cons (.ix (.var 3) (.int 2)) .nil)) .nil))))) <|
    .nil)
    (.nil)) <|
  .nil
def w0_p_kept : S := .for_ [3] (.nm 3) (.seq (.cal 11 (.cons (.var 0) (.cons (.var 1) .nil)))) v0_p_kept
def b_p_kept : Ss := .cons (w0_p_kept) <|
  .cons (.ret (.non)) <|
  .nil
/-- charge_of(found, name) slots: ['found', 'name', 'best', 'one'] -/
def v0_p_charge_of : Ss := .cons (.ifs (.and (.cal 0 (.cons (.var 1) (.cons (.ix (.var 3) (.int 0)) .nil))) (.cmp .gt (.bi .len (.cons (.ix (.var 3) (.int 0)) .nil)) (.bi .len (.cons (.ix (.var 2) (.int 0)) .nil))))
    (.cons (.set 2 (.var 3)) <|
    .nil)
    (.nil)) <|
  .nil
def w0_p_charge_of : S := .for_ [3] (.nm 3) (.lent 0) v0_p_charge_of
def b_p_charge_of : Ss := .cons (.set 2 (.ix (.tv 0) (.int 0))) <|
  .cons (w0_p_charge_of) <|
  .cons (.ret (.var 2)) <|
  .nil
/-- reply_of(houses, found, name, kind) slots: ['houses', 'found', 'name', 'kind', 'top', 'door', 'zone'] -/
def b_p_reply_of : Ss := .cons (.tup [4, 5] (.cal 13 (.cons (.tv 1) (.cons (.var 2) .nil)))) <|
  .cons (.set 6 (.cal 12 (.cons (.var 0) (.cons (.var 5) (.cons (.var 4) .nil))))) <|
  .cons (.ifs (.cmp .isN (.var 6) (.non))
    (.cons (.ret (.tup (.cons (.str "away") .nil))) <|
    .nil)
    (.nil)) <|
  .cons (.ret (.cal 10 (.cons (.var 6) (.cons (.var 2) (.cons (.var 3) .nil))))) <|
  .nil
/-- leads(houses, found, name, kind) slots: ['houses', 'found', 'name', 'kind', 'seen', 'reply'] -/
def v0_p_leads : Ss := .cons (.app 4 (.var 2)) <|
  .cons (.set 5 (.cal 14 (.cons (.var 0) (.cons (.tv 1) (.cons (.var 2) (.cons (.var 3) .nil)))))) <|
  .cons (.ifs (.cmp .eq (.ix (.var 5) (.int 0)) (.str "rows"))
    (.cons (.ret (.ix (.var 5) (.int 1))) <|
    .nil)
    (.nil)) <|
  .cons (.ifs (.cmp .ne (.ix (.var 5) (.int 0)) (.str "else"))
    (.cons (.ret (.lst .nil)) <|
    .nil)
    (.nil)) <|
  .cons (.set 2 (.ix (.var 5) (.int 1))) <|
  .nil
def w0_p_leads : S := .whil (fun _ => 1000) [5] (.cmp .nin (.var 2) (.tv 4)) v0_p_leads
def b_p_leads : Ss := .cons (.setO 4 (.lst .nil)) <|
  .cons (w0_p_leads) <|
  .cons (.ret (.lst .nil)) <|
  .nil
/-- cuts_at(houses, top, door) slots: ['houses', 'top', 'door', 'zone', 'cuts', 'row', 'cut'] -/
def e0_p_cuts_at : E := .lc [5] (.nm 5) (.seq (.ix (.var 3) (.int 2))) (.cmp .eq (.ix (.var 5) (.int 2)) (.str "down")) (.ix (.var 5) (.int 0))
def e1_p_cuts_at : E := .lc [6] (.nm 6) (.seq (.var 4)) (.cmp .eq (.cal 4 (.cons (.var 3) (.cons (.var 6) .nil))) (.var 6)) (.cal 10 (.cons (.var 3) (.cons (.var 6) (.cons (.str "door") .nil))))
def b_p_cuts_at : Ss := .cons (.set 3 (.cal 12 (.cons (.var 0) (.cons (.var 2) (.cons (.var 1) .nil))))) <|
  .cons (.ifs (.cmp .isN (.var 3) (.non))
    (.cons (.retO (.lst .nil)) <|
    .nil)
    (.nil)) <|
  .cons (.set 4 (e0_p_cuts_at)) <|
  .cons (.retO (e1_p_cuts_at)) <|
  .nil
/-- found_doors(houses, found, reply) slots: ['houses', 'found', 'reply'] -/
def b_p_found_doors : Ss := .cons (.ifs (.cmp .ne (.ix (.var 2) (.int 3)) (.lst .nil))
    (.cons (.ret (.ix (.var 2) (.int 3))) <|
    .nil)
    (.nil)) <|
  .cons (.ret (.cal 15 (.cons (.var 0) (.cons (.tv 1) (.cons (.ix (.var 2) (.int 2)) (.cons (.str "door") .nil)))))) <|
  .nil
/-- charges(houses, root) slots: ['houses', 'root', 'found', 'waiting_cuts', 'more', 'rest', 'reply', 'doors'] -/
def v0_p_charges : Ss := .cons (.set 7 (.cal 17 (.cons (.var 0) (.cons (.tv 2) (.cons (.var 6) .nil))))) <|
  .cons (.ifs (.cmp .eq (.var 7) (.lst .nil))
    (.cons (.app 5 (.var 6)) <|
    .nil)
    (.cons (.app 2 (.tup (.cons (.ix (.var 6) (.int 1)) (.cons (.ix (.var 7) (.int 0)) .nil)))) <|
    .cons (.ext 5 (.cal 16 (.cons (.var 0) (.cons (.ix (.var 6) (.int 1)) (.cons (.ix (.var 7) (.int 0)) .nil))))) <|
    .cons (.set 4 (.bl true)) <|
    .nil)) <|
  .nil
def w0_p_charges : S := .for_ [6, 7] (.nm 6) (.seq (.var 3)) v0_p_charges
def v1_p_charges : Ss := .cons (.set 4 (.bl false)) <|
  .cons (.setO 5 (.lst .nil)) <|
  .cons (w0_p_charges) <|
  .frz 5 <|
  .cons (.set 3 (.var 5)) <|
  .nil
def w1_p_charges : S := .whil (fun _ => 1000) [5, 6, 7] (.var 4) v1_p_charges
def b_p_charges : Ss := .cons (.setO 2 (.lst (.cons (.tup (.cons (.tup .nil) (.cons (.var 1) .nil))) .nil))) <|
  .cons (.set 3 (.cal 16 (.cons (.var 0) (.cons (.tup .nil) (.cons (.var 1) .nil))))) <|
  .cons (.set 4 (.bl true)) <|
  .cons (w1_p_charges) <|
  .frz 2 <|
  .cons (.ret (.var 2)) <|
  .nil
/-- waiting(waits, step) slots: ['waits', 'step', 'one'] -/
def e0_p_waiting : E := .lc [2] (.nm 2) (.lent 0) (.bl true) (.and (.cmp .eq (.ix (.var 2) (.int 1)) (.ix (.var 1) (.int 1))) (.cmp .eq (.ix (.var 2) (.int 2)) (.ix (.var 1) (.int 2))))
def b_p_waiting : Ss := .cons (.ret (.bi .any (.cons (e0_p_waiting) .nil))) <|
  .nil
/-- by_door(waits) slots: ['waits', 'one'] -/
def e0_p_by_door : E := .lc [1] (.nm 1) (.seq (.var 0)) (.bl true) (.cmp .eq (.ix (.var 1) (.int 0)) (.str "door"))
def b_p_by_door : Ss := .cons (.ret (.bi .any (.cons (e0_p_by_door) .nil))) <|
  .nil
/-- ended(reply, waits) slots: ['reply', 'waits'] -/
def b_p_ended : Ss := .cons (.ifs (.or (.cmp .eq (.ix (.var 0) (.int 0)) (.str "away")) (.cal 20 (.cons (.var 1) .nil)))
    (.cons (.ret (.tup (.cons (.str "lost") (.cons (.lst .nil) (.cons (.var 1) .nil))))) <|
    .nil)
    (.nil)) <|
  .cons (.ifs (.cmp .eq (.ix (.var 0) (.int 0)) (.str "rows"))
    (.cons (.ret (.tup (.cons (.str "rows") (.cons (.ix (.var 0) (.int 1)) (.cons (.var 1) .nil))))) <|
    .nil)
    (.nil)) <|
  .cons (.ret (.tup (.cons (.ix (.var 0) (.int 0)) (.cons (.lst .nil) (.cons (.var 1) .nil))))) <|
  .nil
/-- truth(houses, root, name, kind) slots: ['houses', 'root', 'name', 'kind', 'found', 'waits', 'last', 'reply', 'again', 'step'] -/
def v0_p_truth : Ss := .cons (.set 6 (.ix (.tv 5) (.neg (.int 1)))) <|
  .cons (.set 7 (.cal 14 (.cons (.var 0) (.cons (.var 4) (.cons (.ix (.var 6) (.int 1)) (.cons (.ix (.var 6) (.int 2)) .nil)))))) <|
  .cons (.ifs (.cmp .eq (.ix (.var 7) (.int 0)) (.str "else"))
    (.cons (.set 9 (.tup (.cons (.str "else") (.cons (.ix (.var 7) (.int 1)) (.cons (.ix (.var 6) (.int 2)) .nil))))) <|
    .nil)
    (.cons (.ifs (.cmp .eq (.ix (.var 7) (.int 0)) (.str "down"))
      (.cons (.set 9 (.tup (.cons (.str "door") (.cons (.ix (.var 7) (.int 2)) (.cons (.str "door") .nil))))) <|
      .nil)
      (.frz 5 <|
      .cons (.ret (.cal 21 (.cons (.var 7) (.cons (.var 5) .nil)))) <|
      .nil)) <|
    .nil)) <|
  .cons (.set 8 (.cal 19 (.cons (.tv 5) (.cons (.var 9) .nil)))) <|
  .cons (.app 5 (.var 9)) <|
  .cons (.ifs (.var 8)
    (.frz 5 <|
    .cons (.ret (.tup (.cons (.str "ring") (.cons (.lst .nil) (.cons (.var 5) .nil))))) <|
    .nil)
    (.nil)) <|
  .nil
def w0_p_truth : S := .whil (fun _ => 1000) [6, 7, 8, 9] (.bl true) v0_p_truth
def b_p_truth : Ss := .cons (.set 4 (.cal 18 (.cons (.var 0) (.cons (.var 1) .nil)))) <|
  .cons (.setO 5 (.lst (.cons (.tup (.cons (.str "asked") (.cons (.var 2) (.cons (.var 3) .nil)))) .nil))) <|
  .cons (w0_p_truth) <|
  .nil
/-- _law_cell_at(_law_script, _law_k) slots: ['_law_script', '_law_k'] -/
def b_l_cell_at : Ss := .cons (.ifs (.cmp .lt (.var 1) (.bi .len (.cons (.var 0) .nil)))
    (.cons (.ret (.ix (.var 0) (.var 1))) <|
    .nil)
    (.nil)) <|
  .cons (.ret (.int 0)) <|
  .nil
/-- _law_part(_law_cell, _law_k, _law_many) slots: ['_law_cell', '_law_k', '_law_many'] -/
def b_l_part : Ss := .cons (.ret (.bin .mod (.bin .mod (.bin .mul (.bin .mod (.bin .mul (.bin .add (.bin .mod (.var 0) (.int 99991)) (.int 17)) (.bin .add (.int 48271) (.bin .mul (.int 7919) (.var 1)))) (.int 65537)) (.bin .add (.var 1) (.int 3))) (.int 8191)) (.var 2))) <|
  .nil
/-- _law_words(_law_one, _law_other, _law_many) slots: ['_law_one', '_law_other', '_law_many', '_law_signs', '_law_size', '_law_at', '_law_words_here', '_law_k', '_law_word', '_law_j', '_law_number'] -/
def v0_l_words : Ss := .cons (.set 10 (.cal 24 (.cons (.var 0) (.cons (.bin .add (.var 9) (.int 2)) (.cons (.int 37) .nil))))) <|
  .cons (.ifs (.cmp .eq (.var 9) (.var 5))
    (.cons (.set 10 (.bin .add (.var 10) (.var 7))) <|
    .nil)
    (.nil)) <|
  .cons (.set 8 (.bin .add (.var 8) (.ix (.var 3) (.bin .mod (.var 10) (.int 37))))) <|
  .nil
def w0_l_words : S := .for_ [9, 10] (.nm 9) (.rng1 (.var 4)) v0_l_words
def v1_l_words : Ss := .cons (.set 8 (.str "")) <|
  .cons (w0_l_words) <|
  .cons (.app 6 (.var 8)) <|
  .nil
def w1_l_words : S := .for_ [7, 8, 9, 10] (.nm 7) (.rng1 (.var 2)) v1_l_words
def b_l_words : Ss := .cons (.set 3 (.str "abcdefghijklmnopqrstuvwxyz0123456789-")) <|
  .cons (.set 4 (.bin .add (.int 1) (.cal 24 (.cons (.var 0) (.cons (.int 0) (.cons (.int 12) .nil)))))) <|
  .cons (.set 5 (.cal 24 (.cons (.var 1) (.cons (.int 1) (.cons (.var 4) .nil))))) <|
  .cons (.setO 6 (.lst .nil)) <|
  .cons (w1_l_words) <|
  .frz 6 <|
  .cons (.ret (.var 6)) <|
  .nil
/-- _law_zone(_law_words_here, _law_nexts, _law_ways, _law_k, _law_life) slots: ['_law_words_here', '_law_nexts', '_law_ways', '_law_k', '_law_life', '_law_rows'] -/
def b_l_zone : Ss := .cons (.setO 5 (.lst (.cons (.tup (.cons (.tup (.cons (.ix (.var 0) (.var 3)) (.cons (.str "host") .nil))) (.cons (.int 5) (.cons (.str "mark") (.cons (.ix (.var 0) (.var 3)) .nil))))) .nil))) <|
  .cons (.ifs (.cmp .lt (.ix (.var 2) (.var 3)) (.int 2))
    (.cons (.app 5 (.tup (.cons (.tup (.cons (.ix (.var 0) (.var 3)) (.cons (.str "keeper") .nil))) (.cons (.int 5) (.cons (.str "door") (.cons (.str "here") .nil)))))) <|
    .nil)
    (.nil)) <|
  .cons (.ifs (.cmp .eq (.ix (.var 2) (.var 3)) (.int 3))
    (.cons (.app 5 (.tup (.cons (.tup (.cons (.ix (.var 0) (.var 3)) (.cons (.str "keeper") .nil))) (.cons (.int 5) (.cons (.str "else") (.cons (.tup (.cons (.ix (.var 0) (.ix (.var 1) (.var 3))) (.cons (.str "keeper") .nil))) .nil)))))) <|
    .frz 5 <|
    .nil)
    (.frz 5 <|
    .nil)) <|
  .cons (.ret (.tup (.cons (.tup (.cons (.ix (.var 0) (.var 3)) .nil)) (.cons (.var 4) (.cons (.var 5) .nil))))) <|
  .nil
/-- _law_houses(_law_words_here, _law_nexts, _law_ways, _law_life) slots: ['_law_words_here', '_law_nexts', '_law_ways', '_law_life', '_law_rows', '_law_k', '_law_zones'] -/
def v0_l_houses : Ss := .cons (.ifs (.cmp .eq (.ix (.var 2) (.var 5)) (.int 0))
    (.cons (.app 4 (.tup (.cons (.tup (.cons (.ix (.var 0) (.var 5)) .nil)) (.cons (.int 5) (.cons (.str "down") (.cons (.tup (.cons (.ix (.var 0) (.ix (.var 1) (.var 5))) (.cons (.str "keeper") .nil))) .nil)))))) <|
    .nil)
    (.cons (.app 4 (.tup (.cons (.tup (.cons (.ix (.var 0) (.var 5)) .nil)) (.cons (.int 5) (.cons (.str "down") (.cons (.tup (.cons (.ix (.var 0) (.var 5)) (.cons (.str "own") .nil))) .nil)))))) <|
    .cons (.app 4 (.tup (.cons (.tup (.cons (.ix (.var 0) (.var 5)) (.cons (.str "own") .nil))) (.cons (.int 5) (.cons (.str "door") (.cons (.str "here") .nil)))))) <|
    .nil)) <|
  .nil
def w0_l_houses : S := .for_ [5] (.nm 5) (.rng1 (.bi .len (.cons (.var 1) .nil))) v0_l_houses
def e0_l_houses : E := .lc [5] (.nm 5) (.rng1 (.bi .len (.cons (.var 1) .nil))) (.bl true) (.cal 26 (.cons (.var 0) (.cons (.var 1) (.cons (.var 2) (.cons (.var 5) (.cons (.var 3) .nil))))))
def b_l_houses : Ss := .cons (.setO 4 (.lst .nil)) <|
  .cons (w0_l_houses) <|
  .frz 4 <|
  .cons (.set 6 (e0_l_houses)) <|
  .cons (.ret (.dc1 (.str "here") (.bin .add (.lst (.cons (.tup (.cons (.tup .nil) (.cons (.var 3) (.cons (.var 4) .nil)))) .nil)) (.var 6)))) <|
  .nil
/-- _law_leads(_law_nexts, _law_ways, _law_at) slots: ['_law_nexts', '_law_ways', '_law_at', '_law_gone'] -/
def v0_l_leads : Ss := .cons (.app 3 (.var 2)) <|
  .cons (.ifs (.or (.cmp .eq (.ix (.var 1) (.var 2)) (.int 1)) (.cmp .eq (.ix (.var 1) (.var 2)) (.int 2)))
    (.cons (.ret (.cmp .eq (.ix (.var 1) (.var 2)) (.int 1))) <|
    .nil)
    (.nil)) <|
  .cons (.set 2 (.ix (.var 0) (.var 2))) <|
  .nil
def w0_l_leads : S := .whil (fun _ => 1000) [] (.cmp .nin (.var 2) (.tv 3)) v0_l_leads
def b_l_leads : Ss := .cons (.setO 3 (.lst .nil)) <|
  .cons (w0_l_leads) <|
  .cons (.ret (.bl false)) <|
  .nil
/-- _law_due(_law_words_here, _law_nexts, _law_ways, _law_k) slots: ['_law_words_here', '_law_nexts', '_law_ways', '_law_k', '_law_waits', '_law_gone', '_law_why', '_law_at'] -/
def v0_l_due : Ss := .cons (.app 5 (.var 7)) <|
  .cons (.app 4 (.tup (.cons (.var 6) (.cons (.tup (.cons (.ix (.var 0) (.var 7)) (.cons (.str "keeper") .nil))) (.cons (.str "door") .nil))))) <|
  .cons (.ifs (.cmp .eq (.ix (.var 2) (.var 7)) (.int 2))
    (.frz 4 <|
    .cons (.ret (.tup (.cons (.str "lost") (.cons (.lst .nil) (.cons (.var 4) .nil))))) <|
    .nil)
    (.nil)) <|
  .cons (.set 6 (.ix (.lst (.cons (.str "door") (.cons (.str "door") (.cons (.str "door") (.cons (.str "else") .nil))))) (.ix (.var 2) (.var 7)))) <|
  .cons (.set 7 (.ix (.var 1) (.var 7))) <|
  .nil
def w0_l_due : S := .whil (fun _ => 1000) [] (.cmp .nin (.var 7) (.tv 5)) v0_l_due
def b_l_due : Ss := .cons (.setO 4 (.lst (.cons (.tup (.cons (.str "asked") (.cons (.tup (.cons (.ix (.var 0) (.var 3)) (.cons (.str "host") .nil))) (.cons (.str "mark") .nil)))) .nil))) <|
  .cons (.ifs (.or (.cmp .ne (.ix (.var 2) (.var 3)) (.int 0)) (.cal 28 (.cons (.var 1) (.cons (.var 2) (.cons (.ix (.var 1) (.var 3)) .nil)))))
    (.frz 4 <|
    .cons (.ret (.tup (.cons (.str "rows") (.cons (.lst (.cons (.ix (.var 0) (.var 3)) .nil)) (.cons (.var 4) .nil))))) <|
    .nil)
    (.nil)) <|
  .cons (.setO 5 (.lst .nil)) <|
  .cons (.set 6 (.str "door")) <|
  .cons (.set 7 (.ix (.var 1) (.var 3))) <|
  .cons (w0_l_due) <|
  .cons (.app 4 (.tup (.cons (.var 6) (.cons (.tup (.cons (.ix (.var 0) (.var 7)) (.cons (.str "keeper") .nil))) (.cons (.str "door") .nil))))) <|
  .frz 4 <|
  .cons (.ret (.tup (.cons (.str "ring") (.cons (.lst .nil) (.cons (.var 4) .nil))))) <|
  .nil
/-- law(_law_script) slots: ['_law_script', '_law_many', '_law_nexts', '_law_ways', '_law_words_here', '_law_life', '_law_j', '_law_k', '_law_houses_here', '_law_name', '_law_found', '_law_cell'] -/
def e0_law : E := .lc [11] (.nm 11) (.seq (.sl (.var 0) (.int 3) (.int 9))) (.bl true) (.bin .mod (.var 11) (.var 1))
def e1_law : E := .lc [11] (.nm 11) (.seq (.sl (.var 0) (.int 3) (.int 9))) (.bl true) (.ix (.lst (.cons (.int 0) (.cons (.int 0) (.cons (.int 1) (.cons (.int 2) (.cons (.int 3) .nil)))))) (.cal 24 (.cons (.var 11) (.cons (.int 3) (.cons (.int 5) .nil)))))
def v0_law : Ss := .cons (.set 7 (.bin .mod (.bin .add (.cal 23 (.cons (.var 0) (.cons (.int 9) .nil))) (.var 6)) (.var 1))) <|
  .cons (.set 8 (.cal 27 (.cons (.var 4) (.cons (.var 2) (.cons (.var 3) (.cons (.var 5) .nil)))))) <|
  .cons (.set 9 (.tup (.cons (.ix (.var 4) (.var 7)) (.cons (.str "host") .nil)))) <|
  .cons (.set 10 (.cal 22 (.cons (.var 8) (.cons (.str "here") (.cons (.var 9) (.cons (.str "mark") .nil)))))) <|
  .cons (.ifs (.or (.not (.isi .tuple (.var 10))) (.cmp .ne (.var 10) (.cal 29 (.cons (.var 4) (.cons (.var 2) (.cons (.var 3) (.cons (.var 7) .nil)))))))
    (.cons (.ret (.bl false)) <|
    .nil)
    (.nil)) <|
  .cons (.ifs (.cmp .ne (.cal 22 (.cons (.var 8) (.cons (.str "elsewhere") (.cons (.var 9) (.cons (.str "door") .nil))))) (.tup (.cons (.str "lost") (.cons (.lst .nil) (.cons (.lst (.cons (.tup (.cons (.str "asked") (.cons (.var 9) (.cons (.str "door") .nil)))) .nil)) .nil)))))
    (.cons (.ret (.bl false)) <|
    .nil)
    (.nil)) <|
  .nil
def w0_law : S := .for_ [6, 7, 8, 9, 10] (.nm 6) (.rng1 (.bi .min2 (.cons (.var 1) (.cons (.int 3) .nil)))) v0_law
def b_law : Ss := .cons (.set 1 (.bi .len (.cons (.sl (.var 0) (.int 3) (.int 9)) .nil))) <|
  .cons (.set 2 (e0_law)) <|
  .cons (.set 3 (e1_law)) <|
  .cons (.set 4 (.cal 25 (.cons (.cal 23 (.cons (.var 0) (.cons (.int 0) .nil))) (.cons (.cal 23 (.cons (.var 0) (.cons (.int 1) .nil))) (.cons (.int 6) .nil))))) <|
  .cons (.set 5 (.bin .mod (.cal 23 (.cons (.var 0) (.cons (.int 2) .nil))) (.int 1000000000))) <|
  .cons (w0_law) <|
  .cons (.ret (.cmp .eq (.cal 22 (.cons (.dc0) (.cons (.str "here") (.cons (.tup (.cons (.ix (.var 4) (.int 0)) .nil)) (.cons (.str "mark") .nil))))) (.tup (.cons (.str "lost") (.cons (.lst .nil) (.cons (.lst (.cons (.tup (.cons (.str "asked") (.cons (.tup (.cons (.ix (.var 4) (.int 0)) .nil)) (.cons (.str "mark") .nil)))) .nil)) .nil)))))) <|
  .nil
def cs (k : Nat) : Dat := ([] : List Dat).getD k .none
def xmL : List (Str × Str × Bool) := []
def xm (c c' : Str) : Option Bool := xmF xmL c c'
def xiL : List (Str × Str × Bool) := []
def xi (c c' : Str) : Option Bool := xmF xiL c c'
abbrev P0 : Pg := ⟨fun _ _ => .bad, cs, xm, xi⟩
abbrev g_p_at_or_beneath : Sig := ⟨"at_or_beneath", [false, false], 0, none, false⟩
abbrev N_p_at_or_beneath : List Str := ["name", "top"]
abbrev Q_p_at_or_beneath : Pg := P0
def f_p_at_or_beneath (ds : List Dat) : Res Dat := runF Q_p_at_or_beneath 2 [false, false] false b_p_at_or_beneath ds
def P1 : Pg := P0.add 0 f_p_at_or_beneath
abbrev g_p_above : Sig := ⟨"above", [false], 0, none, false⟩
abbrev N_p_above : List Str := ["name", "many"]
abbrev Q_p_above : Pg := P1
def f_p_above (ds : List Dat) : Res Dat := runF Q_p_above 2 [false] false b_p_above ds
def P2 : Pg := P1.add 1 f_p_above
abbrev g_p_rows_at : Sig := ⟨"rows_at", [false, false], 0, none, false⟩
abbrev N_p_rows_at : List Str := ["zone", "name", "row"]
abbrev Q_p_rows_at : Pg := P2
def f_p_rows_at (ds : List Dat) : Res Dat := runF Q_p_rows_at 3 [false, false] false b_p_rows_at ds
def P3 : Pg := P2.add 2 f_p_rows_at
abbrev g_p_down_at : Sig := ⟨"down_at", [false, false], 0, none, false⟩
abbrev N_p_down_at : List Str := ["zone", "name", "row"]
abbrev Q_p_down_at : Pg := P3
def f_p_down_at (ds : List Dat) : Res Dat := runF Q_p_down_at 3 [false, false] false b_p_down_at ds
def P4 : Pg := P3.add 3 f_p_down_at
abbrev g_p_cut_of : Sig := ⟨"cut_of", [false, false], 0, none, false⟩
abbrev N_p_cut_of : List Str := ["zone", "name", "part"]
abbrev Q_p_cut_of : Pg := P4
def f_p_cut_of (ds : List Dat) : Res Dat := runF Q_p_cut_of 3 [false, false] false b_p_cut_of ds
def P5 : Pg := P4.add 4 f_p_cut_of
abbrev g_p_stands : Sig := ⟨"stands", [false, false], 0, none, false⟩
abbrev N_p_stands : List Str := ["zone", "name", "row"]
abbrev Q_p_stands : Pg := P5
def f_p_stands (ds : List Dat) : Res Dat := runF Q_p_stands 3 [false, false] false b_p_stands ds
def P6 : Pg := P5.add 5 f_p_stands
abbrev g_p_doors_at : Sig := ⟨"doors_at", [false, false, false], 0, none, false⟩
abbrev N_p_doors_at : List Str := ["zone", "cut", "house", "row"]
abbrev Q_p_doors_at : Pg := P6
def f_p_doors_at (ds : List Dat) : Res Dat := runF Q_p_doors_at 4 [false, false, false] false b_p_doors_at ds
def P7 : Pg := P6.add 6 f_p_doors_at
abbrev g_p_told_down : Sig := ⟨"told_down", [false, false], 0, none, false⟩
abbrev N_p_told_down : List Str := ["zone", "cut", "row", "doors", "life", "door"]
abbrev Q_p_told_down : Pg := P7
def f_p_told_down (ds : List Dat) : Res Dat := runF Q_p_told_down 6 [false, false] false b_p_told_down ds
def P8 : Pg := P7.add 7 f_p_told_down
abbrev g_p_look_at : Sig := ⟨"look_at", [false, false], 0, none, false⟩
abbrev N_p_look_at : List Str := ["zone", "name", "part"]
abbrev Q_p_look_at : Pg := P8
def f_p_look_at (ds : List Dat) : Res Dat := runF Q_p_look_at 3 [false, false] false b_p_look_at ds
def P9 : Pg := P8.add 8 f_p_look_at
abbrev g_p_told_by : Sig := ⟨"told_by", [false, false, false], 0, none, false⟩
abbrev N_p_told_by : List Str := ["zone", "rows", "kind", "row", "found"]
abbrev Q_p_told_by : Pg := P9
def f_p_told_by (ds : List Dat) : Res Dat := runF Q_p_told_by 5 [false, false, false] false b_p_told_by ds
def P10 : Pg := P9.add 9 f_p_told_by
abbrev g_p_told : Sig := ⟨"told", [false, false, false], 0, none, false⟩
abbrev N_p_told : List Str := ["zone", "name", "kind", "cut", "look", "rows"]
abbrev Q_p_told : Pg := P10
def f_p_told (ds : List Dat) : Res Dat := runF Q_p_told 6 [false, false, false] false b_p_told ds
def P11 : Pg := P10.add 10 f_p_told
abbrev g_p_zones_at : Sig := ⟨"zones_at", [false, false], 0, none, false⟩
abbrev N_p_zones_at : List Str := ["houses", "door"]
abbrev Q_p_zones_at : Pg := P11
def f_p_zones_at (ds : List Dat) : Res Dat := runF Q_p_zones_at 2 [false, false] false b_p_zones_at ds
def P12 : Pg := P11.add 11 f_p_zones_at
abbrev g_p_kept : Sig := ⟨"kept", [false, false, false], 0, none, false⟩
abbrev N_p_kept : List Str := ["houses", "door", "top", "zone"]
abbrev Q_p_kept : Pg := P12
def f_p_kept (ds : List Dat) : Res Dat := runF Q_p_kept 4 [false, false, false] false b_p_kept ds
def P13 : Pg := P12.add 12 f_p_kept
abbrev g_p_charge_of : Sig := ⟨"charge_of", [true, false], 0, none, false⟩
abbrev N_p_charge_of : List Str := ["found", "name", "best", "one"]
abbrev Q_p_charge_of : Pg := P13
def f_p_charge_of (ds : List Dat) : Res Dat := runF Q_p_charge_of 4 [true, false] false b_p_charge_of ds
def P14 : Pg := P13.add 13 f_p_charge_of
abbrev g_p_reply_of : Sig := ⟨"reply_of", [false, true, false, false], 0, none, false⟩
abbrev N_p_reply_of : List Str := ["houses", "found", "name", "kind", "top", "door", "zone"]
abbrev Q_p_reply_of : Pg := P14
def f_p_reply_of (ds : List Dat) : Res Dat := runF Q_p_reply_of 7 [false, true, false, false] false b_p_reply_of ds
def P15 : Pg := P14.add 14 f_p_reply_of
abbrev g_p_leads : Sig := ⟨"leads", [false, true, false, false], 0, none, false⟩
abbrev N_p_leads : List Str := ["houses", "found", "name", "kind", "seen", "reply"]
abbrev Q_p_leads : Pg := P15
def f_p_leads (ds : List Dat) : Res Dat := runF Q_p_leads 6 [false, true, false, false] false b_p_leads ds
def P16 : Pg := P15.add 15 f_p_leads
abbrev g_p_cuts_at : Sig := ⟨"cuts_at", [false, false, false], 2, none, false⟩
abbrev N_p_cuts_at : List Str := ["houses", "top", "door", "zone", "cuts", "row", "cut"]
abbrev Q_p_cuts_at : Pg := P16
def f_p_cuts_at (ds : List Dat) : Res Dat := runF Q_p_cuts_at 7 [false, false, false] true b_p_cuts_at ds
def P17 : Pg := P16.add 16 f_p_cuts_at
abbrev g_p_found_doors : Sig := ⟨"found_doors", [false, true, false], 0, none, false⟩
abbrev N_p_found_doors : List Str := ["houses", "found", "reply"]
abbrev Q_p_found_doors : Pg := P17
def f_p_found_doors (ds : List Dat) : Res Dat := runF Q_p_found_doors 3 [false, true, false] false b_p_found_doors ds
def P18 : Pg := P17.add 17 f_p_found_doors
abbrev g_p_charges : Sig := ⟨"charges", [false, false], 0, none, false⟩
abbrev N_p_charges : List Str := ["houses", "root", "found", "waiting_cuts", "more", "rest", "reply", "doors"]
abbrev Q_p_charges : Pg := P18
def f_p_charges (ds : List Dat) : Res Dat := runF Q_p_charges 8 [false, false] false b_p_charges ds
def P19 : Pg := P18.add 18 f_p_charges
abbrev g_p_waiting : Sig := ⟨"waiting", [true, false], 0, none, false⟩
abbrev N_p_waiting : List Str := ["waits", "step", "one"]
abbrev Q_p_waiting : Pg := P19
def f_p_waiting (ds : List Dat) : Res Dat := runF Q_p_waiting 3 [true, false] false b_p_waiting ds
def P20 : Pg := P19.add 19 f_p_waiting
abbrev g_p_by_door : Sig := ⟨"by_door", [false], 0, none, false⟩
abbrev N_p_by_door : List Str := ["waits", "one"]
abbrev Q_p_by_door : Pg := P20
def f_p_by_door (ds : List Dat) : Res Dat := runF Q_p_by_door 2 [false] false b_p_by_door ds
def P21 : Pg := P20.add 20 f_p_by_door
abbrev g_p_ended : Sig := ⟨"ended", [false, false], 0, none, false⟩
abbrev N_p_ended : List Str := ["reply", "waits"]
abbrev Q_p_ended : Pg := P21
def f_p_ended (ds : List Dat) : Res Dat := runF Q_p_ended 2 [false, false] false b_p_ended ds
def P22 : Pg := P21.add 21 f_p_ended
abbrev g_p_truth : Sig := ⟨"truth", [false, false, false, false], 0, none, false⟩
abbrev N_p_truth : List Str := ["houses", "root", "name", "kind", "found", "waits", "last", "reply", "again", "step"]
abbrev Q_p_truth : Pg := P22
def f_p_truth (ds : List Dat) : Res Dat := runF Q_p_truth 10 [false, false, false, false] false b_p_truth ds
def P23 : Pg := P22.add 22 f_p_truth
abbrev g_l_cell_at : Sig := ⟨"_law_cell_at", [false, false], 0, none, false⟩
abbrev N_l_cell_at : List Str := ["_law_script", "_law_k"]
abbrev Q_l_cell_at : Pg := P23
def f_l_cell_at (ds : List Dat) : Res Dat := runF Q_l_cell_at 2 [false, false] false b_l_cell_at ds
def P24 : Pg := P23.add 23 f_l_cell_at
abbrev g_l_part : Sig := ⟨"_law_part", [false, false, false], 0, none, false⟩
abbrev N_l_part : List Str := ["_law_cell", "_law_k", "_law_many"]
abbrev Q_l_part : Pg := P24
def f_l_part (ds : List Dat) : Res Dat := runF Q_l_part 3 [false, false, false] false b_l_part ds
def P25 : Pg := P24.add 24 f_l_part
abbrev g_l_words : Sig := ⟨"_law_words", [false, false, false], 0, none, false⟩
abbrev N_l_words : List Str := ["_law_one", "_law_other", "_law_many", "_law_signs", "_law_size", "_law_at", "_law_words_here", "_law_k", "_law_word", "_law_j", "_law_number"]
abbrev Q_l_words : Pg := P25
def f_l_words (ds : List Dat) : Res Dat := runF Q_l_words 11 [false, false, false] false b_l_words ds
def P26 : Pg := P25.add 25 f_l_words
abbrev g_l_zone : Sig := ⟨"_law_zone", [false, false, false, false, false], 0, none, false⟩
abbrev N_l_zone : List Str := ["_law_words_here", "_law_nexts", "_law_ways", "_law_k", "_law_life", "_law_rows"]
abbrev Q_l_zone : Pg := P26
def f_l_zone (ds : List Dat) : Res Dat := runF Q_l_zone 6 [false, false, false, false, false] false b_l_zone ds
def P27 : Pg := P26.add 26 f_l_zone
abbrev g_l_houses : Sig := ⟨"_law_houses", [false, false, false, false], 0, none, false⟩
abbrev N_l_houses : List Str := ["_law_words_here", "_law_nexts", "_law_ways", "_law_life", "_law_rows", "_law_k", "_law_zones"]
abbrev Q_l_houses : Pg := P27
def f_l_houses (ds : List Dat) : Res Dat := runF Q_l_houses 7 [false, false, false, false] false b_l_houses ds
def P28 : Pg := P27.add 27 f_l_houses
abbrev g_l_leads : Sig := ⟨"_law_leads", [false, false, false], 0, none, false⟩
abbrev N_l_leads : List Str := ["_law_nexts", "_law_ways", "_law_at", "_law_gone"]
abbrev Q_l_leads : Pg := P28
def f_l_leads (ds : List Dat) : Res Dat := runF Q_l_leads 4 [false, false, false] false b_l_leads ds
def P29 : Pg := P28.add 28 f_l_leads
abbrev g_l_due : Sig := ⟨"_law_due", [false, false, false, false], 0, none, false⟩
abbrev N_l_due : List Str := ["_law_words_here", "_law_nexts", "_law_ways", "_law_k", "_law_waits", "_law_gone", "_law_why", "_law_at"]
abbrev Q_l_due : Pg := P29
def f_l_due (ds : List Dat) : Res Dat := runF Q_l_due 8 [false, false, false, false] false b_l_due ds
def P30 : Pg := P29.add 29 f_l_due
abbrev g_law : Sig := ⟨"law", [false], 0, none, false⟩
abbrev N_law : List Str := ["_law_script", "_law_many", "_law_nexts", "_law_ways", "_law_words_here", "_law_life", "_law_j", "_law_k", "_law_houses_here", "_law_name", "_law_found", "_law_cell"]
abbrev Q_law : Pg := P30
def f_law (ds : List Dat) : Res Dat := runF Q_law 12 [false] false b_law ds
def P31 : Pg := P30.add 30 f_law
@[simp] theorem Q_p_down_at_2 : Q_p_down_at.F 2 = f_p_rows_at := rfl
@[simp] theorem Q_p_cut_of_1 : Q_p_cut_of.F 1 = f_p_above := rfl
@[simp] theorem Q_p_cut_of_3 : Q_p_cut_of.F 3 = f_p_down_at := rfl
@[simp] theorem Q_p_stands_0 : Q_p_stands.F 0 = f_p_at_or_beneath := rfl
@[simp] theorem Q_p_doors_at_0 : Q_p_doors_at.F 0 = f_p_at_or_beneath := rfl
@[simp] theorem Q_p_doors_at_2 : Q_p_doors_at.F 2 = f_p_rows_at := rfl
@[simp] theorem Q_p_told_down_3 : Q_p_told_down.F 3 = f_p_down_at := rfl
@[simp] theorem Q_p_told_down_6 : Q_p_told_down.F 6 = f_p_doors_at := rfl
@[simp] theorem Q_p_look_at_5 : Q_p_look_at.F 5 = f_p_stands := rfl
@[simp] theorem Q_p_told_2 : Q_p_told.F 2 = f_p_rows_at := rfl
@[simp] theorem Q_p_told_4 : Q_p_told.F 4 = f_p_cut_of := rfl
@[simp] theorem Q_p_told_7 : Q_p_told.F 7 = f_p_told_down := rfl
@[simp] theorem Q_p_told_8 : Q_p_told.F 8 = f_p_look_at := rfl
@[simp] theorem Q_p_told_9 : Q_p_told.F 9 = f_p_told_by := rfl
@[simp] theorem Q_p_kept_11 : Q_p_kept.F 11 = f_p_zones_at := rfl
@[simp] theorem Q_p_charge_of_0 : Q_p_charge_of.F 0 = f_p_at_or_beneath := rfl
@[simp] theorem Q_p_reply_of_10 : Q_p_reply_of.F 10 = f_p_told := rfl
@[simp] theorem Q_p_reply_of_12 : Q_p_reply_of.F 12 = f_p_kept := rfl
@[simp] theorem Q_p_reply_of_13 : Q_p_reply_of.F 13 = f_p_charge_of := rfl
@[simp] theorem Q_p_leads_14 : Q_p_leads.F 14 = f_p_reply_of := rfl
@[simp] theorem Q_p_cuts_at_4 : Q_p_cuts_at.F 4 = f_p_cut_of := rfl
@[simp] theorem Q_p_cuts_at_10 : Q_p_cuts_at.F 10 = f_p_told := rfl
@[simp] theorem Q_p_cuts_at_12 : Q_p_cuts_at.F 12 = f_p_kept := rfl
@[simp] theorem Q_p_found_doors_15 : Q_p_found_doors.F 15 = f_p_leads := rfl
@[simp] theorem Q_p_charges_16 : Q_p_charges.F 16 = f_p_cuts_at := rfl
@[simp] theorem Q_p_charges_17 : Q_p_charges.F 17 = f_p_found_doors := rfl
@[simp] theorem Q_p_ended_20 : Q_p_ended.F 20 = f_p_by_door := rfl
@[simp] theorem Q_p_truth_14 : Q_p_truth.F 14 = f_p_reply_of := rfl
@[simp] theorem Q_p_truth_18 : Q_p_truth.F 18 = f_p_charges := rfl
@[simp] theorem Q_p_truth_19 : Q_p_truth.F 19 = f_p_waiting := rfl
@[simp] theorem Q_p_truth_21 : Q_p_truth.F 21 = f_p_ended := rfl
@[simp] theorem Q_l_words_24 : Q_l_words.F 24 = f_l_part := rfl
@[simp] theorem Q_l_houses_26 : Q_l_houses.F 26 = f_l_zone := rfl
@[simp] theorem Q_l_due_28 : Q_l_due.F 28 = f_l_leads := rfl
@[simp] theorem Q_law_22 : Q_law.F 22 = f_p_truth := rfl
@[simp] theorem Q_law_23 : Q_law.F 23 = f_l_cell_at := rfl
@[simp] theorem Q_law_24 : Q_law.F 24 = f_l_part := rfl
@[simp] theorem Q_law_25 : Q_law.F 25 = f_l_words := rfl
@[simp] theorem Q_law_27 : Q_law.F 27 = f_l_houses := rfl
@[simp] theorem Q_law_29 : Q_law.F 29 = f_l_due := rfl
def T : Tx := ⟨[g_p_at_or_beneath, g_p_above, g_p_rows_at, g_p_down_at, g_p_cut_of, g_p_stands, g_p_doors_at, g_p_told_down, g_p_look_at, g_p_told_by, g_p_told, g_p_zones_at, g_p_kept, g_p_charge_of, g_p_reply_of, g_p_leads, g_p_cuts_at, g_p_found_doors, g_p_charges, g_p_waiting, g_p_by_door, g_p_ended, g_p_truth, g_l_cell_at, g_l_part, g_l_words, g_l_zone, g_l_houses, g_l_leads, g_l_due, g_law], [], [], [], false⟩
end NK44
end

section
set_option maxHeartbeats 4000000
namespace NK44
open PySem PySem.Spec NW
abbrev nm (ws : List Str) : Dat := .tuple (ws.map .str)
def cell (ns : List Int) (k : Nat) : Int := ns.getD k 0
theorem r_cell (ns : List Int) (k : Nat) : f_l_cell_at [.list (ns.map .int), .int k] = .ok (.int (cell ns k)) := by
  unfold cell
  by_cases h : k < ns.length <;> simp [f_l_cell_at, b_l_cell_at, atI_nat, h]
def signs : List Nat := (Str.ofString "abcdefghijklmnopqrstuvwxyz0123456789-").cps.toList
theorem signs_len : signs.length = 37 := by decide +kernel
theorem signs_s : Str.ofString "abcdefghijklmnopqrstuvwxyz0123456789-" = tx signs := (tx_of _).symm
theorem empty_s : Str.ofString "" = tx [] := (tx_of _).symm
theorem one_s (c : Nat) : (⟨#[c]⟩ : Str) = tx [c] := rfl
theorem at_signs (x : Int) : L2.atI signs (x % 37) = some (signs.getD (x % 37).toNat 0) := atI_some _ _ _ (by omega) (by rw [signs_len]; omega)
theorem at_mem (x : Int) : signs.getD (x % 37).toNat 0 ∈ signs := by
  have h : (x % 37).toNat < signs.length := by rw [signs_len]; omega
  rw [List.getD_eq_getElem?_getD, List.getElem?_eq_getElem h]
  exact List.getElem_mem h
structure GoodW (w : Str) : Prop where
  lo : 1 ≤ w.length
  hi : w.length ≤ 12
  mem : ∀ x ∈ w.cps.toList, x ∈ signs
def part (c k m : Int) : Int := (c % 99991 + 17) * (48271 + 7919 * k) % 65537 * (k + 3) % 8191 % m
theorem r_part (c k m : Int) (hm : 0 < m) : f_l_part [.int c, .int k, .int m] = .ok (.int (part c k m)) := by
  have h1 : ∀ y : Int, binD .mul (.int (c % 99991 + 17)) (.int y) = .ok (.int ((c % 99991 + 17) * y)) := fun y => bin_mul' _ _ (by omega)
  have h2 : ∀ x y : Int, binD .mul (.int (x % 65537)) (.int y) = .ok (.int (x % 65537 * y)) := fun x y => bin_mul' _ _ (by omega)
  have h3 : ∀ y : Int, binD .mul (.int 7919) (.int y) = .ok (.int (7919 * y)) := fun y => bin_mul' _ _ (by omega)
  simp [f_l_part, b_l_part, bin_mod, h1, h2, h3, bin_mod _ _ hm, part]
theorem part_lo (c k m : Int) (hm : 0 < m) : 0 ≤ part c k m := Int.emod_nonneg _ (by omega)
theorem part_hi (c k m : Int) (hm : 0 < m) : part c k m < m := Int.emod_lt_of_pos _ hm
theorem at_strs (W : List Str) (i : Int) (h : 0 ≤ i) (h' : i < W.length) : ∃ w ∈ W, L2.atI (W.map PyData.str) i = some (.str w) := by
  obtain ⟨n, rfl⟩ := Int.eq_ofNat_of_zero_le h
  have hn : n < W.length := by omega
  refine ⟨W[n], List.getElem_mem hn, ?_⟩
  rw [atI_nat]
  simp [hn]
/-! ### the tree, in the abstract: cuts, charges -/
namespace CHT
structure Cut (α δ : Type) where
  nm : List α
  house : List α
  doors : List δ
  life : Int
inductive Rp (α δ : Type) where
  | down (c : Cut α δ)
  | els (t : List α)
  | rows (vs : List δ)
  | oth
structure Zon (α δ : Type) where
  told : List α → Rp α δ
  cuts : List (Cut α δ)
structure GdZon {α δ : Type} (top : List α) (z : Zon α δ) : Prop where
  sub : ∀ c ∈ z.cuts, top <+: c.nm ∧ top ≠ c.nm
  down : ∀ n c, z.told n = .down c ↔ c ∈ z.cuts ∧ c.nm <+: n
  nd : (z.cuts.map (·.nm)).Nodup
section
variable {α δ : Type} [DecidableEq α] [DecidableEq δ]
theorem pre_cmp {a b c : List α} (h1 : a <+: c) (h2 : b <+: c) (h : a.length ≤ b.length) : a <+: b := List.prefix_of_prefix_length_le h1 h2 h
theorem pre_eq {a b : List α} (h1 : a <+: b) (h : b.length ≤ a.length) : a = b := List.IsPrefix.eq_of_length h1 (Nat.le_antisymm h1.length_le h)
theorem pre_lt {a b : List α} (h1 : a <+: b) (h : a ≠ b) : a.length < b.length := by
  have := h1.length_le
  by_cases e : b.length ≤ a.length
  · exact absurd (pre_eq h1 e) h
  · omega
theorem gd_uniq {t : List α} {z : Zon α δ} (g : GdZon t z) {c c' : Cut α δ} {n : List α} (h1 : c ∈ z.cuts) (h2 : c' ∈ z.cuts) (p1 : c.nm <+: n) (p2 : c'.nm <+: n) : c = c' := by
  have e1 := (g.down n c).mpr ⟨h1, p1⟩
  have e2 := (g.down n c').mpr ⟨h2, p2⟩
  rw [e1] at e2
  exact (Rp.down.inj e2)
def chgS (n : List α) (b o : List α × δ) : List α × δ := if n.take o.1.length = o.1 ∧ b.1.length < o.1.length then o else b
def chargeO (n : List α) (F : List (List α × δ)) (b : List α × δ) : List α × δ := F.foldl (chgS n) b
theorem take_pre (n t : List α) : n.take t.length = t ↔ t <+: n := by
  rw [List.prefix_iff_eq_take]
  exact eq_comm
theorem charge_max (n : List α) : ∀ (F : List (List α × δ)) (b : List α × δ), b.1 <+: n → (chargeO n F b).1 <+: n ∧ (chargeO n F b = b ∨ chargeO n F b ∈ F) ∧ b.1.length ≤ (chargeO n F b).1.length ∧ ∀ o ∈ F, o.1 <+: n → o.1.length ≤ (chargeO n F b).1.length
  | [], b, h => ⟨h, .inl rfl, Nat.le_refl _, fun o ho => by simp at ho⟩
  | o :: F, b, h => by
    have h1 : (chgS n b o).1 <+: n := by
      unfold chgS
      split
      · rename_i g; exact (take_pre n o.1).mp g.1
      · exact h
    have h2 : b.1.length ≤ (chgS n b o).1.length ∧ (o.1 <+: n → o.1.length ≤ (chgS n b o).1.length) ∧ (chgS n b o = b ∨ chgS n b o = o) := by
      unfold chgS
      split
      · rename_i g; exact ⟨by omega, fun _ => Nat.le_refl _, .inr rfl⟩
      · rename_i g
        refine ⟨Nat.le_refl _, fun p => ?_, .inl rfl⟩
        have := (take_pre n o.1).mpr p
        by_cases q : b.1.length < o.1.length
        · exact absurd ⟨this, q⟩ g
        · omega
    obtain ⟨i1, i2, i3, i4⟩ := charge_max n F (chgS n b o) h1
    have e : chargeO n (o :: F) b = chargeO n F (chgS n b o) := rfl
    rw [e]
    refine ⟨i1, ?_, by omega, fun u hu p => ?_⟩
    · rcases i2 with i2 | i2
      · rcases h2.2.2 with q | q
        · exact .inl (i2.trans q)
        · exact .inr (by rw [i2, q]; simp)
      · exact .inr (by simp [i2])
    · rcases List.mem_cons.mp hu with rfl | hu
      · have := h2.2.1 p; omega
      · exact i4 u hu p
/-- what keeps zones: by door and top -/
abbrev Kp (α δ : Type) := δ → List α → Option (Zon α δ)
structure Hd (root : δ) (F : List (List α × δ)) : Prop where
  hd : F.head? = some ([], root)
  nd : (F.map (·.1)).Nodup
def charge (root : δ) (F : List (List α × δ)) (n : List α) : List α × δ := chargeO n F ([], root)
theorem nd_eq {F : List (List α × δ)} (h : (F.map (·.1)).Nodup) {x y : List α × δ} (hx : x ∈ F) (hy : y ∈ F) (e : x.1 = y.1) : x = y := by
  induction F with
  | nil => simp at hx
  | cons a F ih =>
    simp only [List.map_cons, List.nodup_cons, List.mem_map, not_exists, not_and] at h
    rcases List.mem_cons.mp hx with rfl | hx'
    · rcases List.mem_cons.mp hy with rfl | hy'
      · rfl
      · exact absurd e.symm (h.1 y hy')
    · rcases List.mem_cons.mp hy with rfl | hy'
      · exact absurd e (h.1 x hx')
      · exact ih h.2 hx' hy'
theorem hd_mem {root : δ} {F : List (List α × δ)} (h : Hd root F) : ([], root) ∈ F := by
  have := h.hd
  cases F with
  | nil => cases this
  | cons a F => simp at this; subst this; simp
theorem charge_mem {root : δ} {F : List (List α × δ)} (h : Hd root F) (n : List α) : charge root F n ∈ F ∧ (charge root F n).1 <+: n ∧ ∀ o ∈ F, o.1 <+: n → o.1 <+: (charge root F n).1 := by
  obtain ⟨i1, i2, i3, i4⟩ := charge_max n F ([], root) (List.nil_prefix)
  refine ⟨?_, i1, fun o ho p => pre_cmp p i1 (i4 o ho p)⟩
  rcases i2 with i2 | i2
  · unfold charge; rw [i2]; exact hd_mem h
  · exact i2
theorem charge_char {root : δ} {F : List (List α × δ)} (h : Hd root F) {n : List α} {e : List α × δ} (he : e ∈ F) (p : e.1 <+: n) (m : ∀ o ∈ F, o.1 <+: n → o.1.length ≤ e.1.length) : charge root F n = e := by
  obtain ⟨h1, h2, h3⟩ := charge_mem h n
  refine nd_eq h.nd h1 he ?_
  exact (pre_eq (h3 e he p) (m _ h1 h2)).symm
/-- between two names that have a door lies a cut that has one -/
def Mid (kp : Kp α δ) (F : List (List α × δ)) : Prop := ∀ x ∈ F, ∀ y ∈ F, x.1 <+: y.1 → x.1 ≠ y.1 → ∃ z, kp x.2 x.1 = some z ∧ ∃ c ∈ z.cuts, c.nm <+: y.1 ∧ ∃ d, (c.nm, d) ∈ F
def GdK (kp : Kp α δ) : Prop := ∀ d t z, kp d t = some z → GdZon t z
def rep (kp : Kp α δ) (root : δ) (F : List (List α × δ)) (n : List α) : Option (Rp α δ) := (kp (charge root F n).2 (charge root F n).1).map fun z => z.told n
inductive Lead (rp : List α → Option (Rp α δ)) : List α → List δ → Prop
  | rows {n : List α} {vs : List δ} : rp n = some (.rows vs) → Lead rp n vs
  | els {n t : List α} {vs : List δ} : rp n = some (.els t) → Lead rp t vs → Lead rp n vs
theorem Lead.det {rp : List α → Option (Rp α δ)} {n : List α} {vs ws : List δ} (a : Lead rp n vs) (b : Lead rp n ws) : vs = ws := by
  induction a with
  | rows e =>
    cases b with
    | rows e' => rw [e] at e'; cases e'; rfl
    | els e' _ => rw [e] at e'; cases e'
  | els e _ ih =>
    cases b with
    | rows e' => rw [e] at e'; cases e'
    | els e' b => rw [e] at e'; cases e'; exact ih b
open Classical in
noncomputable def leadsV (rp : List α → Option (Rp α δ)) (n : List α) : List δ := if h : ∃ vs, Lead rp n vs then h.choose else []
theorem leadsV_of {rp : List α → Option (Rp α δ)} {n : List α} {vs : List δ} (a : Lead rp n vs) : leadsV rp n = vs := by
  have h : ∃ vs, Lead rp n vs := ⟨vs, a⟩
  unfold leadsV
  rw [dif_pos h]
  exact h.choose_spec.det a
theorem leadsV_no {rp : List α → Option (Rp α δ)} {n : List α} (a : ¬ ∃ vs, Lead rp n vs) : leadsV rp n = [] := by
  unfold leadsV
  rw [dif_neg a]
theorem leadsV_cons {rp : List α → Option (Rp α δ)} {n : List α} {v : δ} {vs : List δ} (a : leadsV rp n = v :: vs) : Lead rp n (v :: vs) := by
  unfold leadsV at a
  split at a
  · rename_i h
    rw [← a]
    exact h.choose_spec
  · cases a
noncomputable def doorsV (kp : Kp α δ) (root : δ) (F : List (List α × δ)) (c : Cut α δ) : List δ := if c.doors ≠ [] then c.doors else leadsV (rep kp root F) c.house
inductive Rch (rp : List α → Option (Rp α δ)) : List α → List α → Prop
  | one {n t : List α} : rp n = some (.els t) → Rch rp n t
  | step {n t u : List α} : rp n = some (.els t) → Rch rp t u → Rch rp n u
theorem Rch.snoc {rp : List α → Option (Rp α δ)} {a b c : List α} (r : Rch rp a b) (e : rp b = some (.els c)) : Rch rp a c := by
  induction r with
  | one e0 => exact .step e0 (.one e)
  | step e0 _ ih => exact .step e0 (ih e)
theorem Lead.no_ring {rp : List α → Option (Rp α δ)} {n : List α} {vs : List δ} (l : Lead rp n vs) : ¬ Rch rp n n := by
  induction l with
  | rows e =>
    intro r
    cases r with
    | one e' => rw [e] at e'; cases e'
    | step e' _ => rw [e] at e'; cases e'
  | els e _ ih =>
    intro r
    cases r with
    | one e' =>
      rw [e] at e'
      cases e'
      exact ih (.one e)
    | step e' r =>
      have e2 := e
      rw [e'] at e2
      cases e2
      exact ih (r.snoc e)
theorem Lead.back {rp : List α → Option (Rp α δ)} {n t : List α} {vs : List δ} (e : rp n = some (.els t)) (l : Lead rp n vs) : Lead rp t vs := by
  cases l with
  | rows e' => rw [e] at e'; cases e'
  | els e' l => rw [e] at e'; cases e'; exact l
/-- what is not handed down stays with its house -/
theorem charge_stay {kp : Kp α δ} (g : GdK kp) {root : δ} {F F' : List (List α × δ)} (h : Hd root F) (h' : Hd root F') (s : ∀ x ∈ F, x ∈ F') (m : Mid kp F') {n : List α} (nd : ∀ c, rep kp root F n ≠ some (.down c)) : charge root F' n = charge root F n := by
  obtain ⟨a1, a2, a3⟩ := charge_mem h n
  obtain ⟨b1, b2, b3⟩ := charge_mem h' n
  have p := b3 _ (s _ a1) a2
  by_cases e : (charge root F n).1 = (charge root F' n).1
  · exact (nd_eq h'.nd (s _ a1) b1 e).symm
  · exfalso
    obtain ⟨z, k, c, hc, q, _⟩ := m _ (s _ a1) _ b1 p e
    refine nd c ?_
    unfold rep
    rw [k, Option.map_some, ((g _ _ _ k).down n c).mpr ⟨hc, q.trans b2⟩]
theorem rep_stay {kp : Kp α δ} (g : GdK kp) {root : δ} {F F' : List (List α × δ)} (h : Hd root F) (h' : Hd root F') (s : ∀ x ∈ F, x ∈ F') (m : Mid kp F') {n : List α} (nd : ∀ c, rep kp root F n ≠ some (.down c)) : rep kp root F' n = rep kp root F n := by
  have := charge_stay g h h' s m nd
  unfold rep
  rw [this]
theorem lead_mono {kp : Kp α δ} (g : GdK kp) {root : δ} {F F' : List (List α × δ)} (h : Hd root F) (h' : Hd root F') (s : ∀ x ∈ F, x ∈ F') (m : Mid kp F') {n : List α} {vs : List δ} (l : Lead (rep kp root F) n vs) : Lead (rep kp root F') n vs := by
  induction l with
  | rows e => exact .rows ((rep_stay g h h' s m fun c q => by rw [e] at q; cases q).trans e)
  | els e _ ih => exact .els ((rep_stay g h h' s m fun c q => by rw [e] at q; cases q).trans e) ih
def cutsK (kp : Kp α δ) (e : List α × δ) : List (Cut α δ) := match kp e.2 e.1 with
  | none => []
  | some z => z.cuts
theorem cutsK_mem {kp : Kp α δ} {e : List α × δ} {c : Cut α δ} : c ∈ cutsK kp e ↔ ∃ z, kp e.2 e.1 = some z ∧ c ∈ z.cuts := by
  unfold cutsK
  cases kp e.2 e.1 with
  | none => simp
  | some z => simp
/-- how each name came by its door -/
def Just (kp : Kp α δ) (root : δ) (F : List (List α × δ)) : Prop := ∀ i e, F[i]? = some e → i ≠ 0 → ∃ x ∈ F.take i, ∃ c ∈ cutsK kp x, c.nm = e.1 ∧ (doorsV kp root (F.take i) c).head? = some e.2
structure Inv (kp : Kp α δ) (root : δ) (F : List (List α × δ)) : Prop extends Hd root F where
  mid : ∀ i, Mid kp (F.take i)
  just : Just kp root F
theorem Inv.md {kp : Kp α δ} {root : δ} {F : List (List α × δ)} (i : Inv kp root F) : Mid kp F := by
  have := i.mid F.length
  rwa [List.take_length] at this
theorem Hd.take {root : δ} {F : List (List α × δ)} (h : Hd root F) {i : Nat} (hi : i ≠ 0) : Hd root (F.take i) := by
  refine ⟨?_, ?_⟩
  · have := h.hd
    cases F with
    | nil => cases this
    | cons a F =>
      cases i with
      | zero => exact absurd rfl hi
      | succ i => simpa using this
  · rw [List.map_take]
    exact h.nd.sublist (List.take_sublist _ _)
/-- a cut is its house's own in one zone alone -/
theorem one_parent {kp : Kp α δ} (g : GdK kp) {root : δ} {F : List (List α × δ)} (h : Hd root F) (m : Mid kp F) {x x' : List α × δ} (hx : x ∈ F) (hx' : x' ∈ F) {c c' : Cut α δ} (hc : c ∈ cutsK kp x) (hc' : c' ∈ cutsK kp x') (e : c.nm = c'.nm) : x = x' ∧ c = c' := by
  have key : ∀ {x x' : List α × δ}, x ∈ F → x' ∈ F → ∀ {c c' : Cut α δ}, c ∈ cutsK kp x → c' ∈ cutsK kp x' → c.nm = c'.nm → x.1.length ≤ x'.1.length → x.1 = x'.1 := by
    intro x x' hx hx' c c' hc hc' e hl
    obtain ⟨z, k, hz⟩ := cutsK_mem.mp hc
    obtain ⟨z', k', hz'⟩ := cutsK_mem.mp hc'
    have s1 := (g _ _ _ k).sub c hz
    have s2 := (g _ _ _ k').sub c' hz'
    have p : x.1 <+: x'.1 := pre_cmp s1.1 (e ▸ s2.1) hl
    by_cases q : x.1 = x'.1
    · exact q
    · exfalso
      obtain ⟨z1, k1, u, hu, pu, _⟩ := m _ hx _ hx' p q
      rw [k] at k1
      cases k1
      have : u = c := gd_uniq (g _ _ _ k) hu hz (n := c.nm) (pu.trans (e ▸ s2.1)) (List.prefix_refl _)
      subst this
      have : x'.1 = u.nm := pre_eq (by rw [e]; exact s2.1) pu.length_le
      rw [e] at this
      exact s2.2 this
  have hxx : x.1 = x'.1 := by
    by_cases hl : x.1.length ≤ x'.1.length
    · exact key hx hx' hc hc' e hl
    · exact (key hx' hx hc' hc e.symm (by omega)).symm
  have ex := nd_eq h.nd hx hx' hxx
  subst ex
  refine ⟨rfl, ?_⟩
  obtain ⟨z, k, hz⟩ := cutsK_mem.mp hc
  obtain ⟨z', k', hz'⟩ := cutsK_mem.mp hc'
  rw [k] at k'
  cases k'
  exact gd_uniq (g _ _ _ k) hz hz' (n := c.nm) (List.prefix_refl _) (by rw [e]; exact List.prefix_refl _)
/-- what waits: each cut of a name that has a door has one, too, or waits -/
structure Wt (kp : Kp α δ) (F : List (List α × δ)) (Q : List (Cut α δ)) : Prop where
  pend : ∀ e ∈ F, ∀ c ∈ cutsK kp e, (∃ d, (c.nm, d) ∈ F) ∨ c ∈ Q
  nd : (Q.map (·.nm)).Nodup
  new : ∀ c ∈ Q, ∀ d, (c.nm, d) ∉ F
  par : ∀ c ∈ Q, ∃ x ∈ F, c ∈ cutsK kp x
theorem take_snoc {β : Type} (F : List β) (e : β) (i : Nat) : (F ++ [e]).take i = if i ≤ F.length then F.take i else F ++ [e] := by
  split
  · rename_i h; rw [List.take_append_of_le_length h]
  · rename_i h; rw [List.take_of_length_le (by simp; omega)]
theorem step_inv {kp : Kp α δ} (g : GdK kp) {root : δ} {F : List (List α × δ)} (i : Inv kp root F) {A B : List (Cut α δ)} {c : Cut α δ} (w : Wt kp F (A ++ c :: B)) {d : δ} {ds : List δ} (hd : doorsV kp root F c = d :: ds) :
    Inv kp root (F ++ [(c.nm, d)]) ∧ Wt kp (F ++ [(c.nm, d)]) (A ++ cutsK kp (c.nm, d) ++ B) := by
  have hcQ : c ∈ A ++ c :: B := by simp
  obtain ⟨t, ht, hct⟩ := w.par c hcQ
  have hnew := w.new c hcQ
  obtain ⟨zt, kt, hzt⟩ := cutsK_mem.mp hct
  have st := (g _ _ _ kt).sub c hzt
  have nF : c.nm ∉ F.map (·.1) := fun q => by
    obtain ⟨e, he, q⟩ := List.mem_map.mp q
    exact hnew e.2 (by rw [← q]; exact he)
  -- above the new one
  have up : ∀ x ∈ F, x.1 <+: c.nm → ∃ z, kp x.2 x.1 = some z ∧ ∃ u ∈ z.cuts, u.nm <+: c.nm ∧ (u = c ∨ ∃ d, (u.nm, d) ∈ F) := by
    intro x hx p
    by_cases e : x.1 = t.1
    · have := nd_eq i.nd hx ht e
      subst this
      exact ⟨zt, kt, c, hzt, List.prefix_refl _, .inl rfl⟩
    · by_cases hl : x.1.length ≤ t.1.length
      · have q : x.1 <+: t.1 := pre_cmp p st.1 hl
        obtain ⟨z, k, u, hu, pu, hf⟩ := i.md _ hx _ ht q e
        exact ⟨z, k, u, hu, pu.trans st.1, .inr hf⟩
      · exfalso
        have q : t.1 <+: x.1 := pre_cmp st.1 p (by omega)
        obtain ⟨z, k, u, hu, pu, ⟨d', hf⟩⟩ := i.md _ ht _ hx q (Ne.symm e)
        rw [kt] at k
        cases k
        have : u = c := gd_uniq (g _ _ _ kt) hu hzt (n := c.nm) (pu.trans p) (List.prefix_refl _)
        subst this
        exact hnew d' hf
  -- none beneath it
  have lo : ∀ y ∈ F, ¬ c.nm <+: y.1 := by
    intro y hy p
    have q : t.1 <+: y.1 := st.1.trans p
    have ne : t.1 ≠ y.1 := fun z => by
      have h1 := pre_lt st.1 st.2
      have h2 := p.length_le
      rw [z] at h1
      omega
    obtain ⟨z, k, u, hu, pu, ⟨d', hf⟩⟩ := i.md _ ht _ hy q ne
    rw [kt] at k
    cases k
    have : u = c := gd_uniq (g _ _ _ kt) hu hzt (n := y.1) pu p
    subst this
    exact hnew d' hf
  have md : Mid kp (F ++ [(c.nm, d)]) := by
    intro x hx y hy p ne
    rcases List.mem_append.mp hx with hx | hx
    · rcases List.mem_append.mp hy with hy | hy
      · obtain ⟨z, k, u, hu, pu, ⟨d', hf⟩⟩ := i.md _ hx _ hy p ne
        exact ⟨z, k, u, hu, pu, d', by simp [hf]⟩
      · rw [List.mem_singleton] at hy
        subst hy
        obtain ⟨z, k, u, hu, pu, hf⟩ := up x hx p
        refine ⟨z, k, u, hu, pu, ?_⟩
        rcases hf with rfl | ⟨d', hf⟩
        · exact ⟨d, by simp⟩
        · exact ⟨d', by simp [hf]⟩
    · rw [List.mem_singleton] at hx
      subst hx
      rcases List.mem_append.mp hy with hy | hy
      · exact absurd p (lo y hy)
      · rw [List.mem_singleton] at hy
        subst hy
        exact absurd rfl ne
  have hne : F ≠ [] := fun e => by have := i.hd; rw [e] at this; cases this
  have inv : Inv kp root (F ++ [(c.nm, d)]) := by
    refine { hd := ?_, nd := ?_, mid := ?_, just := ?_ }
    · rw [List.head?_append, i.hd]; rfl
    · rw [List.map_append, List.nodup_append]
      refine ⟨i.nd, by simp, fun a ha b hb => ?_⟩
      simp only [List.map_cons, List.map_nil, List.mem_singleton] at hb
      subst hb
      exact fun z => nF (z ▸ ha)
    · intro k
      rw [take_snoc]
      split
      · exact i.mid k
      · exact md
    · intro k e he hk
      rw [take_snoc]
      by_cases hl : k < F.length
      · rw [if_pos (by omega)]
        rw [List.getElem?_append_left hl] at he
        exact i.just k e he hk
      · have hk' : k = F.length := by
          have := (List.getElem?_eq_some_iff.mp he).1
          simp at this
          omega
        subst hk'
        simp at he
        subst he
        rw [if_pos (Nat.le_refl _), List.take_length]
        exact ⟨t, ht, c, hct, rfl, by rw [hd]; rfl⟩
  refine ⟨inv, ?_⟩
  have subs : ∀ u ∈ cutsK kp (c.nm, d), c.nm <+: u.nm ∧ c.nm ≠ u.nm := fun u hu => by
    obtain ⟨z, k, hz⟩ := cutsK_mem.mp hu
    exact (g _ _ _ k).sub u hz
  have wnd := w.nd
  refine ⟨fun e he u hu => ?_, ?_, fun u hu d' hf => ?_, fun u hu => ?_⟩
  · rcases List.mem_append.mp he with he | he
    · rcases w.pend e he u hu with ⟨d', hf⟩ | hq
      · exact .inl ⟨d', by simp [hf]⟩
      · rcases List.mem_append.mp hq with hq | hq
        · exact .inr (by simp [hq])
        · rcases List.mem_cons.mp hq with rfl | hq
          · exact .inl ⟨d, by simp⟩
          · exact .inr (by simp [hq])
    · rw [List.mem_singleton] at he
      subst he
      exact .inr (by simp [hu])
  · -- names of what waits
    have cross : ∀ u ∈ cutsK kp (c.nm, d), ∀ v ∈ A ++ B, u.nm ≠ v.nm := by
      intro u hu v hv e
      have hv' : v ∈ A ++ c :: B := by
        rcases List.mem_append.mp hv with q | q
        · simp [q]
        · simp [q]
      obtain ⟨x, hx, hvx⟩ := w.par v hv'
      have := one_parent g inv.toHd inv.md (x := (c.nm, d)) (x' := x) (by simp) (by simp [hx]) hu hvx e
      have hxe := this.1
      subst hxe
      exact hnew d hx
    have ndu : ((cutsK kp (c.nm, d)).map (·.nm)).Nodup := by
      unfold cutsK
      split
      · simp
      · rename_i z k
        exact (g _ _ _ k).nd
    rw [List.map_append, List.map_cons] at wnd
    rw [List.map_append, List.map_append]
    rw [List.nodup_append] at wnd
    obtain ⟨n1, n2, n3⟩ := wnd
    rw [List.nodup_cons] at n2
    rw [List.append_assoc, List.nodup_append]
    refine ⟨n1, ?_, fun a ha b hb => ?_⟩
    · rw [List.nodup_append]
      refine ⟨ndu, n2.2, fun a ha b hb => ?_⟩
      obtain ⟨u, hu, rfl⟩ := List.mem_map.mp ha
      obtain ⟨v, hv, rfl⟩ := List.mem_map.mp hb
      exact cross u hu v (by simp [hv])
    · rcases List.mem_append.mp hb with hb | hb
      · obtain ⟨u, hu, rfl⟩ := List.mem_map.mp hb
        obtain ⟨v, hv, rfl⟩ := List.mem_map.mp ha
        exact fun z => cross u hu v (by simp [hv]) z.symm
      · exact n3 a ha b (by simp [hb])
  · rcases List.mem_append.mp hf with hf | hf
    · rcases List.mem_append.mp hu with hu | hu
      · rcases List.mem_append.mp hu with hu | hu
        · exact w.new u (by simp [hu]) d' hf
        · exact lo _ hf (subs u hu).1
      · exact w.new u (by simp [hu]) d' hf
    · simp only [List.mem_singleton, Prod.mk.injEq] at hf
      rcases List.mem_append.mp hu with hu | hu
      · rcases List.mem_append.mp hu with hu | hu
        · rw [List.map_append, List.nodup_append] at wnd
          exact wnd.2.2 u.nm (List.mem_map_of_mem hu) c.nm (by simp) hf.1
        · exact (subs u hu).2 hf.1.symm
      · rw [List.map_append, List.nodup_append] at wnd
        have := wnd.2.1
        rw [List.map_cons, List.nodup_cons] at this
        exact this.1 (by rw [← hf.1]; exact List.mem_map_of_mem hu)
  · rcases List.mem_append.mp hu with hu | hu
    · rcases List.mem_append.mp hu with hu | hu
      · obtain ⟨x, hx, q⟩ := w.par u (by simp [hu])
        exact ⟨x, by simp [hx], q⟩
      · exact ⟨(c.nm, d), by simp, hu⟩
    · obtain ⟨x, hx, q⟩ := w.par u (by simp [hu])
      exact ⟨x, by simp [hx], q⟩
/-- the charges: no cut is left that could have a door -/
structure Chg (kp : Kp α δ) (root : δ) (F : List (List α × δ)) : Prop extends Inv kp root F where
  all : ∀ e ∈ F, ∀ c ∈ cutsK kp e, (∃ d, (c.nm, d) ∈ F) ∨ doorsV kp root F c = []
theorem chg_sub {kp : Kp α δ} (g : GdK kp) {root : δ} {F F' : List (List α × δ)} (a : Inv kp root F) (b : Chg kp root F') : ∀ x ∈ F, x ∈ F' := by
  have key : ∀ i, ∀ x ∈ F.take i, x ∈ F' := by
    intro i
    induction i with
    | zero => intro x hx; simp at hx
    | succ i ih =>
      intro x hx
      by_cases hl : i < F.length
      · rw [List.take_succ, List.getElem?_eq_getElem hl] at hx
        rcases List.mem_append.mp hx with hx | hx
        · exact ih x hx
        · simp at hx
          have hx' : F[i]? = some x := by rw [List.getElem?_eq_getElem hl, hx]
          by_cases h0 : i = 0
          · subst h0
            have := a.hd
            rw [List.head?_eq_getElem?, hx'] at this
            cases this
            exact hd_mem b.toHd
          · obtain ⟨p, hp, c, hc, e1, e2⟩ := a.just i x hx' h0
            have ht := a.toHd.take h0
            have hd' : ∀ ds, doorsV kp root (F.take i) c = ds → ds ≠ [] → doorsV kp root F' c = ds := by
              intro ds q ne
              unfold doorsV at q ⊢
              split at q
              · rename_i w; rw [if_pos w]; exact q
              · rename_i w
                rw [if_neg w]
                cases ds with
                | nil => exact absurd rfl ne
                | cons v vs => exact leadsV_of (lead_mono g ht b.toHd ih b.md (leadsV_cons q))
            cases q : doorsV kp root (F.take i) c with
            | nil => rw [q] at e2; cases e2
            | cons v vs =>
              rw [q] at e2
              simp at e2
              subst e2
              have q' := hd' _ q (by simp)
              rcases b.all p (ih p hp) c hc with ⟨d, hd⟩ | hn
              · obtain ⟨j, hj⟩ := List.mem_iff_getElem?.mp hd
                have hj0 : j ≠ 0 := fun z => by
                  subst z
                  have := b.hd
                  rw [List.head?_eq_getElem?, hj] at this
                  simp at this
                  obtain ⟨zz, k, hz⟩ := cutsK_mem.mp hc
                  have s := (g _ _ _ k).sub c hz
                  rw [this.1] at s
                  have := s.1.length_le
                  exact s.2 (List.eq_nil_of_length_eq_zero (by simpa using this))
                obtain ⟨p', hp', c', hc', f1, f2⟩ := b.just j _ hj hj0
                have := one_parent g b.toHd b.md (ih p hp) (List.mem_of_mem_take hp') hc hc' f1.symm
                obtain ⟨rfl, rfl⟩ := this
                have : x = (c.nm, x.2) := by rw [e1]
                rw [this]
                have hw : doorsV kp root (F'.take j) c = x.2 :: vs := by
                  unfold doorsV at f2 q' ⊢
                  split at f2
                  · rename_i w; rw [if_pos w] at q' ⊢; exact q'
                  · rename_i w
                    rw [if_neg w] at q' ⊢
                    cases q2 : leadsV (rep kp root (F'.take j)) c.house with
                    | nil => rw [q2] at f2; cases f2
                    | cons u us =>
                      have l1 := lead_mono g (b.toHd.take hj0) b.toHd (fun y hy => List.mem_of_mem_take hy) b.md (leadsV_cons q2)
                      exact l1.det (leadsV_cons q')
                rw [hw] at f2
                simp at f2
                rw [f2]
                exact hd
              · rw [hn] at q'; cases q'
      · rw [List.take_of_length_le (by omega)] at hx
        rw [List.take_of_length_le (by omega)] at ih
        exact ih x hx
  intro x hx
  exact key F.length x (by rw [List.take_length]; exact hx)
theorem chg_uniq {kp : Kp α δ} (g : GdK kp) {root : δ} {F F' : List (List α × δ)} (a : Chg kp root F) (b : Chg kp root F') : ∀ x, x ∈ F ↔ x ∈ F' := fun x => ⟨chg_sub g a.toInv b x, chg_sub g b.toInv a x⟩
theorem charge_set {root : δ} {F F' : List (List α × δ)} (h : Hd root F) (h' : Hd root F') (s : ∀ x, x ∈ F ↔ x ∈ F') (n : List α) : charge root F n = charge root F' n := by
  obtain ⟨a1, a2, a3⟩ := charge_mem h' n
  exact charge_char h ((s _).mpr a1) a2 fun o ho p => (a3 o ((s o).mp ho) p).length_le
/-- a loop's rounds -/
noncomputable def stepC (kp : Kp α δ) (root : δ) (s : List (List α × δ) × List (Cut α δ) × Bool) (c : Cut α δ) : List (List α × δ) × List (Cut α δ) × Bool := match doorsV kp root s.1 c with
  | [] => (s.1, s.2.1 ++ [c], s.2.2)
  | d :: _ => (s.1 ++ [(c.nm, d)], s.2.1 ++ cutsK kp (c.nm, d), true)
theorem round_inv {kp : Kp α δ} (g : GdK kp) {root : δ} : ∀ (W : List (Cut α δ)) (s : List (List α × δ) × List (Cut α δ) × Bool), Inv kp root s.1 → Wt kp s.1 (s.2.1 ++ W) → (s.2.2 = false → ∀ c ∈ s.2.1, doorsV kp root s.1 c = []) →
    Inv kp root (W.foldl (stepC kp root) s).1 ∧ Wt kp (W.foldl (stepC kp root) s).1 (W.foldl (stepC kp root) s).2.1 ∧ s.1.length ≤ (W.foldl (stepC kp root) s).1.length ∧ (s.2.2 = true → (W.foldl (stepC kp root) s).2.2 = true) ∧
    ((W.foldl (stepC kp root) s).2.2 = false → (W.foldl (stepC kp root) s).1 = s.1 ∧ ∀ c ∈ (W.foldl (stepC kp root) s).2.1, doorsV kp root s.1 c = []) ∧ ((W.foldl (stepC kp root) s).2.2 = true → s.2.2 = false → s.1.length < (W.foldl (stepC kp root) s).1.length)
  | [], s, i, w, h => ⟨i, by simpa using w, Nat.le_refl _, fun q => q, fun q => ⟨rfl, h q⟩, fun a b => by rw [List.foldl_nil, b] at a; cases a⟩
  | c :: W, s, i, w, h => by
    rw [List.foldl_cons]
    cases q : doorsV kp root s.1 c with
    | nil =>
      have e : stepC kp root s c = (s.1, s.2.1 ++ [c], s.2.2) := by unfold stepC; rw [q]
      rw [e]
      have := round_inv g W (s.1, s.2.1 ++ [c], s.2.2) i (by simpa using w) (fun z u hu => by
        rcases List.mem_append.mp hu with hu | hu
        · exact h z u hu
        · rw [List.mem_singleton] at hu; subst hu; exact q)
      exact this
    | cons d ds =>
      have e : stepC kp root s c = (s.1 ++ [(c.nm, d)], s.2.1 ++ cutsK kp (c.nm, d), true) := by unfold stepC; rw [q]
      rw [e]
      obtain ⟨i', w'⟩ := step_inv g i w q
      obtain ⟨j1, j2, j3, j4, j5, j6⟩ := round_inv g W (s.1 ++ [(c.nm, d)], s.2.1 ++ cutsK kp (c.nm, d), true) i' w' (fun z => by cases z)
      have j4' := j4 rfl
      simp only [List.length_append, List.length_singleton] at j3
      refine ⟨j1, j2, by omega, fun _ => j4', fun z => ?_, fun _ _ => by omega⟩
      rw [j4'] at z
      cases z
theorem start_inv {kp : Kp α δ} (g : GdK kp) (root : δ) : Inv kp root [([], root)] ∧ Wt kp [([], root)] (cutsK kp ([], root)) := by
  have md : Mid kp [(([] : List α), root)] := by
    intro x hx y hy p ne
    rw [List.mem_singleton] at hx hy
    subst hx hy
    exact absurd rfl ne
  refine ⟨{ hd := rfl, nd := by simp, mid := fun i => ?_, just := fun i e he hi => ?_ }, ⟨fun e he c hc => ?_, ?_, fun c hc d hf => ?_, fun c hc => ⟨_, by simp, hc⟩⟩⟩
  · cases i with
    | zero => intro x hx; simp at hx
    | succ i => simpa using md
  · have := (List.getElem?_eq_some_iff.mp he).1
    simp at this
    exact absurd this hi
  · rw [List.mem_singleton] at he
    subst he
    exact .inr hc
  · unfold cutsK
    split
    · simp
    · rename_i z k
      exact (g _ _ _ k).nd
  · simp only [List.mem_singleton, Prod.mk.injEq] at hf
    obtain ⟨z, k, hz⟩ := cutsK_mem.mp hc
    exact ((g _ _ _ k).sub c hz).2 hf.1.symm
theorem nodup_len {β : Type} [DecidableEq β] : ∀ (A B : List β), A.Nodup → (∀ a ∈ A, a ∈ B) → A.length ≤ B.length
  | [], _, _, _ => by simp
  | a :: A, B, hn, hs => by
    rw [List.nodup_cons] at hn
    have h1 := nodup_len A (B.erase a) hn.2 fun x hx => (List.mem_erase_of_ne fun z : x = a => hn.1 (z ▸ hx)).mpr (hs x (by simp [hx]))
    have h2 := List.length_erase_of_mem (hs a (by simp))
    have h3 : 0 < B.length := List.length_pos_of_mem (hs a (by simp))
    simp only [List.length_cons]
    omega
/-- how many can have a door -/
theorem inv_len {kp : Kp α δ} (g : GdK kp) {root : δ} {F : List (List α × δ)} (i : Inv kp root F) (P : List (List α)) (hP : ∀ d t z, kp d t = some z → ∀ c ∈ z.cuts, c.nm ∈ P) : F.length ≤ P.length + 1 := by
  have hs : ∀ n ∈ F.map (·.1), n ∈ [] :: P := by
    intro n hn
    obtain ⟨e, he, rfl⟩ := List.mem_map.mp hn
    obtain ⟨j, hj⟩ := List.mem_iff_getElem?.mp he
    by_cases h0 : j = 0
    · subst h0
      have := i.hd
      rw [List.head?_eq_getElem?, hj] at this
      cases this
      simp
    · obtain ⟨x, hx, c, hc, e1, _⟩ := i.just j e hj h0
      obtain ⟨z, k, hz⟩ := cutsK_mem.mp hc
      rw [← e1]
      exact List.mem_cons_of_mem _ (hP _ _ _ k c hz)
  have := nodup_len _ _ i.nd hs
  simpa using this
end
end CHT
@[simp] theorem ne_down_else : (Str.ofString "down" = Str.ofString "else") = False := eq_false (by decide +kernel)
@[simp] theorem ne_down_empty : (Str.ofString "down" = Str.ofString "empty") = False := eq_false (by decide +kernel)
@[simp] theorem ne_down_rows : (Str.ofString "down" = Str.ofString "rows") = False := eq_false (by decide +kernel)
@[simp] theorem ne_down_none : (Str.ofString "down" = Str.ofString "none") = False := eq_false (by decide +kernel)
@[simp] theorem ne_down_away : (Str.ofString "down" = Str.ofString "away") = False := eq_false (by decide +kernel)
@[simp] theorem ne_down_door : (Str.ofString "down" = Str.ofString "door") = False := eq_false (by decide +kernel)
@[simp] theorem ne_down_lost : (Str.ofString "down" = Str.ofString "lost") = False := eq_false (by decide +kernel)
@[simp] theorem ne_down_ring : (Str.ofString "down" = Str.ofString "ring") = False := eq_false (by decide +kernel)
@[simp] theorem ne_down_asked : (Str.ofString "down" = Str.ofString "asked") = False := eq_false (by decide +kernel)
@[simp] theorem ne_down_mark : (Str.ofString "down" = Str.ofString "mark") = False := eq_false (by decide +kernel)
@[simp] theorem ne_down_post : (Str.ofString "down" = Str.ofString "post") = False := eq_false (by decide +kernel)
@[simp] theorem ne_else_down : (Str.ofString "else" = Str.ofString "down") = False := eq_false (by decide +kernel)
@[simp] theorem ne_else_empty : (Str.ofString "else" = Str.ofString "empty") = False := eq_false (by decide +kernel)
@[simp] theorem ne_else_rows : (Str.ofString "else" = Str.ofString "rows") = False := eq_false (by decide +kernel)
@[simp] theorem ne_else_none : (Str.ofString "else" = Str.ofString "none") = False := eq_false (by decide +kernel)
@[simp] theorem ne_else_away : (Str.ofString "else" = Str.ofString "away") = False := eq_false (by decide +kernel)
@[simp] theorem ne_else_door : (Str.ofString "else" = Str.ofString "door") = False := eq_false (by decide +kernel)
@[simp] theorem ne_else_lost : (Str.ofString "else" = Str.ofString "lost") = False := eq_false (by decide +kernel)
@[simp] theorem ne_else_ring : (Str.ofString "else" = Str.ofString "ring") = False := eq_false (by decide +kernel)
@[simp] theorem ne_else_asked : (Str.ofString "else" = Str.ofString "asked") = False := eq_false (by decide +kernel)
@[simp] theorem ne_else_mark : (Str.ofString "else" = Str.ofString "mark") = False := eq_false (by decide +kernel)
@[simp] theorem ne_else_post : (Str.ofString "else" = Str.ofString "post") = False := eq_false (by decide +kernel)
@[simp] theorem ne_empty_down : (Str.ofString "empty" = Str.ofString "down") = False := eq_false (by decide +kernel)
@[simp] theorem ne_empty_else : (Str.ofString "empty" = Str.ofString "else") = False := eq_false (by decide +kernel)
@[simp] theorem ne_empty_rows : (Str.ofString "empty" = Str.ofString "rows") = False := eq_false (by decide +kernel)
@[simp] theorem ne_empty_none : (Str.ofString "empty" = Str.ofString "none") = False := eq_false (by decide +kernel)
@[simp] theorem ne_empty_away : (Str.ofString "empty" = Str.ofString "away") = False := eq_false (by decide +kernel)
@[simp] theorem ne_empty_door : (Str.ofString "empty" = Str.ofString "door") = False := eq_false (by decide +kernel)
@[simp] theorem ne_empty_lost : (Str.ofString "empty" = Str.ofString "lost") = False := eq_false (by decide +kernel)
@[simp] theorem ne_empty_ring : (Str.ofString "empty" = Str.ofString "ring") = False := eq_false (by decide +kernel)
@[simp] theorem ne_empty_asked : (Str.ofString "empty" = Str.ofString "asked") = False := eq_false (by decide +kernel)
@[simp] theorem ne_empty_mark : (Str.ofString "empty" = Str.ofString "mark") = False := eq_false (by decide +kernel)
@[simp] theorem ne_empty_post : (Str.ofString "empty" = Str.ofString "post") = False := eq_false (by decide +kernel)
@[simp] theorem ne_rows_down : (Str.ofString "rows" = Str.ofString "down") = False := eq_false (by decide +kernel)
@[simp] theorem ne_rows_else : (Str.ofString "rows" = Str.ofString "else") = False := eq_false (by decide +kernel)
@[simp] theorem ne_rows_empty : (Str.ofString "rows" = Str.ofString "empty") = False := eq_false (by decide +kernel)
@[simp] theorem ne_rows_none : (Str.ofString "rows" = Str.ofString "none") = False := eq_false (by decide +kernel)
@[simp] theorem ne_rows_away : (Str.ofString "rows" = Str.ofString "away") = False := eq_false (by decide +kernel)
@[simp] theorem ne_rows_door : (Str.ofString "rows" = Str.ofString "door") = False := eq_false (by decide +kernel)
@[simp] theorem ne_rows_lost : (Str.ofString "rows" = Str.ofString "lost") = False := eq_false (by decide +kernel)
@[simp] theorem ne_rows_ring : (Str.ofString "rows" = Str.ofString "ring") = False := eq_false (by decide +kernel)
@[simp] theorem ne_rows_asked : (Str.ofString "rows" = Str.ofString "asked") = False := eq_false (by decide +kernel)
@[simp] theorem ne_rows_mark : (Str.ofString "rows" = Str.ofString "mark") = False := eq_false (by decide +kernel)
@[simp] theorem ne_rows_post : (Str.ofString "rows" = Str.ofString "post") = False := eq_false (by decide +kernel)
@[simp] theorem ne_none_down : (Str.ofString "none" = Str.ofString "down") = False := eq_false (by decide +kernel)
@[simp] theorem ne_none_else : (Str.ofString "none" = Str.ofString "else") = False := eq_false (by decide +kernel)
@[simp] theorem ne_none_empty : (Str.ofString "none" = Str.ofString "empty") = False := eq_false (by decide +kernel)
@[simp] theorem ne_none_rows : (Str.ofString "none" = Str.ofString "rows") = False := eq_false (by decide +kernel)
@[simp] theorem ne_none_away : (Str.ofString "none" = Str.ofString "away") = False := eq_false (by decide +kernel)
@[simp] theorem ne_none_door : (Str.ofString "none" = Str.ofString "door") = False := eq_false (by decide +kernel)
@[simp] theorem ne_none_lost : (Str.ofString "none" = Str.ofString "lost") = False := eq_false (by decide +kernel)
@[simp] theorem ne_none_ring : (Str.ofString "none" = Str.ofString "ring") = False := eq_false (by decide +kernel)
@[simp] theorem ne_none_asked : (Str.ofString "none" = Str.ofString "asked") = False := eq_false (by decide +kernel)
@[simp] theorem ne_none_mark : (Str.ofString "none" = Str.ofString "mark") = False := eq_false (by decide +kernel)
@[simp] theorem ne_none_post : (Str.ofString "none" = Str.ofString "post") = False := eq_false (by decide +kernel)
@[simp] theorem ne_away_down : (Str.ofString "away" = Str.ofString "down") = False := eq_false (by decide +kernel)
@[simp] theorem ne_away_else : (Str.ofString "away" = Str.ofString "else") = False := eq_false (by decide +kernel)
@[simp] theorem ne_away_empty : (Str.ofString "away" = Str.ofString "empty") = False := eq_false (by decide +kernel)
@[simp] theorem ne_away_rows : (Str.ofString "away" = Str.ofString "rows") = False := eq_false (by decide +kernel)
@[simp] theorem ne_away_none : (Str.ofString "away" = Str.ofString "none") = False := eq_false (by decide +kernel)
@[simp] theorem ne_away_door : (Str.ofString "away" = Str.ofString "door") = False := eq_false (by decide +kernel)
@[simp] theorem ne_away_lost : (Str.ofString "away" = Str.ofString "lost") = False := eq_false (by decide +kernel)
@[simp] theorem ne_away_ring : (Str.ofString "away" = Str.ofString "ring") = False := eq_false (by decide +kernel)
@[simp] theorem ne_away_asked : (Str.ofString "away" = Str.ofString "asked") = False := eq_false (by decide +kernel)
@[simp] theorem ne_away_mark : (Str.ofString "away" = Str.ofString "mark") = False := eq_false (by decide +kernel)
@[simp] theorem ne_away_post : (Str.ofString "away" = Str.ofString "post") = False := eq_false (by decide +kernel)
@[simp] theorem ne_door_down : (Str.ofString "door" = Str.ofString "down") = False := eq_false (by decide +kernel)
@[simp] theorem ne_door_else : (Str.ofString "door" = Str.ofString "else") = False := eq_false (by decide +kernel)
@[simp] theorem ne_door_empty : (Str.ofString "door" = Str.ofString "empty") = False := eq_false (by decide +kernel)
@[simp] theorem ne_door_rows : (Str.ofString "door" = Str.ofString "rows") = False := eq_false (by decide +kernel)
@[simp] theorem ne_door_none : (Str.ofString "door" = Str.ofString "none") = False := eq_false (by decide +kernel)
@[simp] theorem ne_door_away : (Str.ofString "door" = Str.ofString "away") = False := eq_false (by decide +kernel)
@[simp] theorem ne_door_lost : (Str.ofString "door" = Str.ofString "lost") = False := eq_false (by decide +kernel)
@[simp] theorem ne_door_ring : (Str.ofString "door" = Str.ofString "ring") = False := eq_false (by decide +kernel)
@[simp] theorem ne_door_asked : (Str.ofString "door" = Str.ofString "asked") = False := eq_false (by decide +kernel)
@[simp] theorem ne_door_mark : (Str.ofString "door" = Str.ofString "mark") = False := eq_false (by decide +kernel)
@[simp] theorem ne_door_post : (Str.ofString "door" = Str.ofString "post") = False := eq_false (by decide +kernel)
@[simp] theorem ne_lost_down : (Str.ofString "lost" = Str.ofString "down") = False := eq_false (by decide +kernel)
@[simp] theorem ne_lost_else : (Str.ofString "lost" = Str.ofString "else") = False := eq_false (by decide +kernel)
@[simp] theorem ne_lost_empty : (Str.ofString "lost" = Str.ofString "empty") = False := eq_false (by decide +kernel)
@[simp] theorem ne_lost_rows : (Str.ofString "lost" = Str.ofString "rows") = False := eq_false (by decide +kernel)
@[simp] theorem ne_lost_none : (Str.ofString "lost" = Str.ofString "none") = False := eq_false (by decide +kernel)
@[simp] theorem ne_lost_away : (Str.ofString "lost" = Str.ofString "away") = False := eq_false (by decide +kernel)
@[simp] theorem ne_lost_door : (Str.ofString "lost" = Str.ofString "door") = False := eq_false (by decide +kernel)
@[simp] theorem ne_lost_ring : (Str.ofString "lost" = Str.ofString "ring") = False := eq_false (by decide +kernel)
@[simp] theorem ne_lost_asked : (Str.ofString "lost" = Str.ofString "asked") = False := eq_false (by decide +kernel)
@[simp] theorem ne_lost_mark : (Str.ofString "lost" = Str.ofString "mark") = False := eq_false (by decide +kernel)
@[simp] theorem ne_lost_post : (Str.ofString "lost" = Str.ofString "post") = False := eq_false (by decide +kernel)
@[simp] theorem ne_ring_down : (Str.ofString "ring" = Str.ofString "down") = False := eq_false (by decide +kernel)
@[simp] theorem ne_ring_else : (Str.ofString "ring" = Str.ofString "else") = False := eq_false (by decide +kernel)
@[simp] theorem ne_ring_empty : (Str.ofString "ring" = Str.ofString "empty") = False := eq_false (by decide +kernel)
@[simp] theorem ne_ring_rows : (Str.ofString "ring" = Str.ofString "rows") = False := eq_false (by decide +kernel)
@[simp] theorem ne_ring_none : (Str.ofString "ring" = Str.ofString "none") = False := eq_false (by decide +kernel)
@[simp] theorem ne_ring_away : (Str.ofString "ring" = Str.ofString "away") = False := eq_false (by decide +kernel)
@[simp] theorem ne_ring_door : (Str.ofString "ring" = Str.ofString "door") = False := eq_false (by decide +kernel)
@[simp] theorem ne_ring_lost : (Str.ofString "ring" = Str.ofString "lost") = False := eq_false (by decide +kernel)
@[simp] theorem ne_ring_asked : (Str.ofString "ring" = Str.ofString "asked") = False := eq_false (by decide +kernel)
@[simp] theorem ne_ring_mark : (Str.ofString "ring" = Str.ofString "mark") = False := eq_false (by decide +kernel)
@[simp] theorem ne_ring_post : (Str.ofString "ring" = Str.ofString "post") = False := eq_false (by decide +kernel)
@[simp] theorem ne_asked_down : (Str.ofString "asked" = Str.ofString "down") = False := eq_false (by decide +kernel)
@[simp] theorem ne_asked_else : (Str.ofString "asked" = Str.ofString "else") = False := eq_false (by decide +kernel)
@[simp] theorem ne_asked_empty : (Str.ofString "asked" = Str.ofString "empty") = False := eq_false (by decide +kernel)
@[simp] theorem ne_asked_rows : (Str.ofString "asked" = Str.ofString "rows") = False := eq_false (by decide +kernel)
@[simp] theorem ne_asked_none : (Str.ofString "asked" = Str.ofString "none") = False := eq_false (by decide +kernel)
@[simp] theorem ne_asked_away : (Str.ofString "asked" = Str.ofString "away") = False := eq_false (by decide +kernel)
@[simp] theorem ne_asked_door : (Str.ofString "asked" = Str.ofString "door") = False := eq_false (by decide +kernel)
@[simp] theorem ne_asked_lost : (Str.ofString "asked" = Str.ofString "lost") = False := eq_false (by decide +kernel)
@[simp] theorem ne_asked_ring : (Str.ofString "asked" = Str.ofString "ring") = False := eq_false (by decide +kernel)
@[simp] theorem ne_asked_mark : (Str.ofString "asked" = Str.ofString "mark") = False := eq_false (by decide +kernel)
@[simp] theorem ne_asked_post : (Str.ofString "asked" = Str.ofString "post") = False := eq_false (by decide +kernel)
@[simp] theorem ne_mark_down : (Str.ofString "mark" = Str.ofString "down") = False := eq_false (by decide +kernel)
@[simp] theorem ne_mark_else : (Str.ofString "mark" = Str.ofString "else") = False := eq_false (by decide +kernel)
@[simp] theorem ne_mark_empty : (Str.ofString "mark" = Str.ofString "empty") = False := eq_false (by decide +kernel)
@[simp] theorem ne_mark_rows : (Str.ofString "mark" = Str.ofString "rows") = False := eq_false (by decide +kernel)
@[simp] theorem ne_mark_none : (Str.ofString "mark" = Str.ofString "none") = False := eq_false (by decide +kernel)
@[simp] theorem ne_mark_away : (Str.ofString "mark" = Str.ofString "away") = False := eq_false (by decide +kernel)
@[simp] theorem ne_mark_door : (Str.ofString "mark" = Str.ofString "door") = False := eq_false (by decide +kernel)
@[simp] theorem ne_mark_lost : (Str.ofString "mark" = Str.ofString "lost") = False := eq_false (by decide +kernel)
@[simp] theorem ne_mark_ring : (Str.ofString "mark" = Str.ofString "ring") = False := eq_false (by decide +kernel)
@[simp] theorem ne_mark_asked : (Str.ofString "mark" = Str.ofString "asked") = False := eq_false (by decide +kernel)
@[simp] theorem ne_mark_post : (Str.ofString "mark" = Str.ofString "post") = False := eq_false (by decide +kernel)
@[simp] theorem ne_post_down : (Str.ofString "post" = Str.ofString "down") = False := eq_false (by decide +kernel)
@[simp] theorem ne_post_else : (Str.ofString "post" = Str.ofString "else") = False := eq_false (by decide +kernel)
@[simp] theorem ne_post_empty : (Str.ofString "post" = Str.ofString "empty") = False := eq_false (by decide +kernel)
@[simp] theorem ne_post_rows : (Str.ofString "post" = Str.ofString "rows") = False := eq_false (by decide +kernel)
@[simp] theorem ne_post_none : (Str.ofString "post" = Str.ofString "none") = False := eq_false (by decide +kernel)
@[simp] theorem ne_post_away : (Str.ofString "post" = Str.ofString "away") = False := eq_false (by decide +kernel)
@[simp] theorem ne_post_door : (Str.ofString "post" = Str.ofString "door") = False := eq_false (by decide +kernel)
@[simp] theorem ne_post_lost : (Str.ofString "post" = Str.ofString "lost") = False := eq_false (by decide +kernel)
@[simp] theorem ne_post_ring : (Str.ofString "post" = Str.ofString "ring") = False := eq_false (by decide +kernel)
@[simp] theorem ne_post_asked : (Str.ofString "post" = Str.ofString "asked") = False := eq_false (by decide +kernel)
@[simp] theorem ne_post_mark : (Str.ofString "post" = Str.ofString "mark") = False := eq_false (by decide +kernel)
inductive Val where
  | n (a : List Str)
  | s (x : Str)
  deriving DecidableEq
structure Row where
  nm : List Str
  life : Int
  kind : Str
  val : Val
  deriving DecidableEq
def valD : Val → Dat
  | .n a => nm a
  | .s x => .str x
def rowD (r : Row) : Dat := .tuple [nm r.nm, .int r.life, .str r.kind, valD r.val]
theorem encV : Enc valD 1 := ⟨fun a b => by
    cases a <;> cases b
    · simp only [valD, nm]
      rw [encN.eqv]
      simp
    · simp [valD, nm, PyData.eqv]
    · simp [valD, nm, PyData.eqv]
    · simp [valD], fun a => by cases a with
    | n a => exact encN.ndc a
    | s x => rfl, fun a => by cases a with
    | n a => exact encN.dep a
    | s x => simp [valD, PyData.depth]⟩
theorem encR : Enc rowD 2 := ⟨fun a b => by
    have h1 : PyData.eqv (nm a.nm) (nm b.nm) = decide (a.nm = b.nm) := encN.eqv a.nm b.nm
    have h2 := encV.eqv a.val b.val
    have e : PyData.eqv (rowD a) (rowD b) = (PyData.eqv (nm a.nm) (nm b.nm) && (PyData.eqv (.int a.life) (.int b.life) && (PyData.eqv (.str a.kind) (.str b.kind) && (PyData.eqv (valD a.val) (valD b.val) && true)))) := rfl
    rw [e, h1, h2, eqv_int, eqv_str]
    cases a; cases b
    simp only [Row.mk.injEq, Bool.and_true]
    rw [Bool.eq_iff_iff]
    simp, fun a => by
    have h1 : ndc (nm a.nm) = true := encN.ndc a.nm
    have h2 := encV.ndc a.val
    have e : ndc (rowD a) = (ndc (nm a.nm) && (true && (true && (ndc (valD a.val) && true)))) := rfl
    rw [e, h1, h2]
    rfl, fun a => by
    refine depth_tup _ fun d hd => ?_
    simp only [List.mem_cons, List.not_mem_nil, or_false] at hd
    rcases hd with rfl | rfl | rfl | rfl
    · exact encN.dep a.nm
    · simp [PyData.depth]
    · simp [PyData.depth]
    · exact encV.dep a.val⟩
theorem cmp_nm (a b : List Str) : cmpD .eq (nm a) (nm b) = .ok (decide (a = b)) := encN.eq (by decide) a b
theorem cmpn_nm (a b : List Str) : cmpD .ne (nm a) (nm b) = .ok (!decide (a = b)) := encN.ne (by decide) a b
theorem row_0 (r : Row) : ixD (rowD r) (.int 0) = .ok (nm r.nm) := by simp [rowD, L2.atI, L2.ixN]
theorem row_2 (r : Row) : ixD (rowD r) (.int 2) = .ok (.str r.kind) := by simp [rowD, L2.atI, L2.ixN]
theorem row_3 (r : Row) : ixD (rowD r) (.int 3) = .ok (valD r.val) := by simp [rowD, L2.atI, L2.ixN]
def zoneD (top : List Str) (life : Int) (R : List Row) : Dat := .tuple [nm top, .int life, .list (R.map rowD)]
theorem zone_0 (t : List Str) (l : Int) (R : List Row) : ixD (zoneD t l R) (.int 0) = .ok (nm t) := by simp [zoneD, L2.atI, L2.ixN]
theorem zone_2 (t : List Str) (l : Int) (R : List Row) : ixD (zoneD t l R) (.int 2) = .ok (.list (R.map rowD)) := by simp [zoneD, L2.atI, L2.ixN]
structure Zn where
  door : Str
  top : List Str
  life : Int
  rows : List Row
  deriving DecidableEq
def znD (z : Zn) : Dat := .tuple [.str z.door, nm z.top, .int z.life, .list (z.rows.map rowD)]
def zoD (z : Zn) : Dat := zoneD z.top z.life z.rows
theorem encZn : Enc znD 4 := ⟨fun a b => by
    have h1 : PyData.eqv (nm a.top) (nm b.top) = decide (a.top = b.top) := encN.eqv a.top b.top
    have h2 := encR.lst.eqv a.rows b.rows
    have e : PyData.eqv (znD a) (znD b) = (PyData.eqv (.str a.door) (.str b.door) && (PyData.eqv (nm a.top) (nm b.top) && (PyData.eqv (.int a.life) (.int b.life) && (PyData.eqv (.list (a.rows.map rowD)) (.list (b.rows.map rowD)) && true)))) := rfl
    rw [e, h1, h2, eqv_int, eqv_str]
    cases a; cases b
    simp only [Zn.mk.injEq, Bool.and_true]
    rw [Bool.eq_iff_iff]
    simp, fun a => by
    have h1 : ndc (nm a.top) = true := encN.ndc a.top
    have h2 := encR.lst.ndc a.rows
    have e : ndc (znD a) = (true && (ndc (nm a.top) && (true && (ndc (.list (a.rows.map rowD)) && true)))) := rfl
    rw [e, h1, h2]
    rfl, fun a => by
    refine depth_tup _ fun d hd => ?_
    simp only [List.mem_cons, List.not_mem_nil, or_false] at hd
    rcases hd with rfl | rfl | rfl | rfl
    · simp [PyData.depth]
    · exact Nat.le_trans (encN.dep a.top) (by omega)
    · simp [PyData.depth]
    · exact encR.lst.dep a.rows⟩
theorem zn_0 (z : Zn) : ixD (znD z) (.int 0) = .ok (.str z.door) := by simp [znD, L2.atI, L2.ixN]
theorem zn_1 (z : Zn) : ixD (znD z) (.int 1) = .ok (nm z.top) := by simp [znD, L2.atI, L2.ixN]
theorem zn_2 (z : Zn) : ixD (znD z) (.int 2) = .ok (.int z.life) := by simp [znD, L2.atI, L2.ixN]
theorem zn_3 (z : Zn) : ixD (znD z) (.int 3) = .ok (.list (z.rows.map rowD)) := by simp [znD, L2.atI, L2.ixN]
def atP (L : List (Str × List Zn)) (d : Str) : List Zn := ((L.find? fun e => decide (e.1 = d)).map (·.2)).getD []
def hsP (L : List (Str × List Zn)) : Dat := .dict (L.map fun e => (PyData.str e.1, .list (e.2.map zoD)))
theorem r_above (a : List Str) (hl : a.length ≤ 1000) : f_p_above [nm a] = .ok (.list ((List.range (a.length + 1)).map fun k => nm (a.take k))) := by
  have he : ev Q_p_above e0_p_above [.fz (nm a), .un] = .ok (.list ((List.range (a.length + 1)).map fun k => nm (a.take k))) := by
    refine lc_map (fun i : Nat => PyData.int (i : Int)) (fun k => nm (a.take k)) (List.range (a.length + 1)) ?_ ?_ fun k hk => ⟨_, rfl, ?_, ?_⟩
    · simp [nm]; exact r1R_nat1 (by omega)
    · simp; omega
    · simp
    · simp [nm, cut_to, List.map_take]
  simp [f_p_above, b_p_above, he]
def rowsAt (R : List Row) (n : List Str) : List Row := R.filter fun r => decide (r.nm = n)
theorem r_rows_at (t n : List Str) (l : Int) (R : List Row) (hR : R.length ≤ 1000000) : f_p_rows_at [zoneD t l R, nm n] = .ok (.list ((rowsAt R n).map rowD)) := by
  have he : ev Q_p_rows_at e0_p_rows_at [.fz (zoneD t l R), .fz (nm n), .un] = .ok (.list ((rowsAt R n).map rowD)) := by
    refine lc_filter rowD rowD (fun r => decide (r.nm = n)) R ?_ hR fun r _ => ⟨_, rfl, ?_, fun _ => ?_⟩
    · simp [-ixD, zone_2]
    · have := cmp_nm r.nm n
      have e : tR (.ok (.bool (decide (r.nm = n)))) = .ok (decide (r.nm = n)) := by simp
      show tR _ = _
      simp [-ixD, row_0, this]
    · simp
  simp [f_p_rows_at, b_p_rows_at, he]
def downAt (R : List Row) (n : List Str) : Option Row := (rowsAt R n).find? fun r => decide (r.kind = Str.ofString "down")
def optD {α : Type} (e : α → Dat) : Option α → Dat
  | none => .none
  | some a => e a
theorem r_down_at (t n : List Str) (l : Int) (R : List Row) (hR : R.length ≤ 1000000) : f_p_down_at [zoneD t l R, nm n] = .ok (optD rowD (downAt R n)) := by
  have hw' : exS Q_p_down_at w0_p_down_at [.fz (zoneD t l R), .fz (nm n), .un] = foundO rowD [.fz (zoneD t l R), .fz (nm n), .un] ((rowsAt R n).find? fun r => decide (r.kind = Str.ofString "down")) := by
    refine for_find rowD (rowsAt R n) (fun r => decide (r.kind = Str.ofString "down")) rowD [.fz (zoneD t l R), .fz (nm n), .un] ?_ rfl fun r _ => ⟨[.fz (zoneD t l R), .fz (nm n), .fz (rowD r)], rfl, fun h => ?_, fun h => ⟨[.fz (zoneD t l R), .fz (nm n), .fz (rowD r)], .inl ?_, rfl⟩⟩
    · simp [r_rows_at t n l R hR]
    · rw [decide_eq_true_eq] at h
      simp [-ixD, v0_p_down_at, row_2, h]
    · rw [decide_eq_false_iff_not] at h
      simp [-ixD, v0_p_down_at, row_2, h]
  · simp only [f_p_down_at, b_p_down_at]
    cases q : downAt R n with
    | none =>
      unfold downAt at q
      rw [q] at hw'
      simp [hw', optD]
    | some r =>
      unfold downAt at q
      rw [q] at hw'
      simp [hw', optD]
theorem rowD_tup (r : Row) (d : Dat) : ∃ ds, rowD r = .tuple ds := ⟨_, rfl⟩
theorem ntN_opt (o : Option Row) : cmpD .ntN (optD rowD o) .none = .ok o.isSome := by cases o <;> rfl
def cutOf (t : List Str) (R : List Row) (n : List Str) : Option (List Str) := ((List.range (n.length + 1)).find? fun k => decide (t.length < (n.take k).length) && (downAt R (n.take k)).isSome).map n.take
theorem r_cut_of (t n : List Str) (l : Int) (R : List Row) (hR : R.length ≤ 1000000) (hn : n.length ≤ 1000) : f_p_cut_of [zoneD t l R, nm n] = .ok (optD nm (cutOf t R n)) := by
  have hw' : exS Q_p_cut_of w0_p_cut_of [.fz (zoneD t l R), .fz (nm n), .un] = foundO (fun k => nm (n.take k)) [.fz (zoneD t l R), .fz (nm n), .un] ((List.range (n.length + 1)).find? fun k => decide (t.length < (n.take k).length) && (downAt R (n.take k)).isSome) := by
    refine for_find (fun k => nm (n.take k)) (List.range (n.length + 1)) (fun k => decide (t.length < (n.take k).length) && (downAt R (n.take k)).isSome) (fun k => nm (n.take k)) [.fz (zoneD t l R), .fz (nm n), .un] ?_ rfl fun k _ => ⟨[.fz (zoneD t l R), .fz (nm n), .fz (nm (n.take k))], rfl, fun h => ?_, fun h => ⟨[.fz (zoneD t l R), .fz (nm n), .fz (nm (n.take k))], .inl ?_, rfl⟩⟩
    · simp [r_above n hn]
    · revert h
      generalize n.take k = p
      intro h
      have hd := r_down_at t p l R hR
      have e1 : biD .len [nm p] = .ok (.int p.length) := by simp only [biD, nm, List.length_map]
      have e2 : biD .len [nm t] = .ok (.int t.length) := by simp only [biD, nm, List.length_map]
      rw [Bool.and_eq_true, decide_eq_true_eq] at h
      simp [-ixD, -biD, v0_p_cut_of, zone_0, e1, e2, hd, ntN_opt, h.1, h.2]
    · revert h
      generalize n.take k = p
      intro h
      have hd := r_down_at t p l R hR
      have e1 : biD .len [nm p] = .ok (.int p.length) := by simp only [biD, nm, List.length_map]
      have e2 : biD .len [nm t] = .ok (.int t.length) := by simp only [biD, nm, List.length_map]
      by_cases h0 : t.length < p.length
      · rw [decide_eq_true h0, Bool.true_and] at h
        simp [-ixD, -biD, v0_p_cut_of, zone_0, e1, e2, hd, ntN_opt, h0, h]
      · simp [-ixD, -biD, v0_p_cut_of, zone_0, e1, e2, h0]
  · simp only [f_p_cut_of, b_p_cut_of, cutOf]
    generalize (List.range (n.length + 1)).find? (fun k => decide (t.length < (n.take k).length) && (downAt R (n.take k)).isSome) = q at hw'
    cases q with
    | none => simp [hw', optD]
    | some r => simp [hw', optD]
theorem r_at (a b : List Str) : f_p_at_or_beneath [nm a, nm b] = .ok (.bool (decide (a.take b.length = b))) := by
  simp [f_p_at_or_beneath, b_p_at_or_beneath, nm, cut_to, ← List.map_take, cmpEq _ _ (shOk_tup_strs _) (shOk_tup_strs _), eqv_tup_strs]
theorem boolsD_map {α : Type} (f : α → Bool) : ∀ xs : List α, boolsD (xs.map fun x => PyData.bool (f x)) = some (xs.map f)
  | [] => rfl
  | x :: xs => by simp [boolsD, boolsD_map f xs]
theorem bi_any {α : Type} (f : α → Bool) (xs : List α) : biD .any [.list (xs.map fun x => PyData.bool (f x))] = .ok (.bool (xs.any f)) := by
  simp only [biD, anyD, boolsD_map]
  congr 2
  rw [List.any_map]
  rfl
def stdB (t : List Str) (R : List Row) (n : List Str) : Bool := decide (n = t) || R.any fun r => decide (r.nm.take n.length = n)
theorem r_stands (t n : List Str) (l : Int) (R : List Row) (hR : R.length ≤ 1000000) : f_p_stands [zoneD t l R, nm n] = .ok (.bool (stdB t R n)) := by
  have he : ev Q_p_stands e0_p_stands [.fz (zoneD t l R), .fz (nm n), .un] = .ok (.list (R.map fun r => PyData.bool (decide (r.nm.take n.length = n)))) := by
    refine lc_map rowD (fun r => PyData.bool (decide (r.nm.take n.length = n))) R ?_ hR fun r _ => ⟨_, rfl, ?_, ?_⟩
    · simp [-ixD, zone_2]
    · simp
    · simp [-ixD, row_0, r_at]
  have c := cmp_nm n t
  by_cases h : n = t
  · rw [decide_eq_true h] at c
    have hs : stdB t R n = true := by simp [stdB, h]
    rw [hs]
    simp [-ixD, f_p_stands, b_p_stands, zone_0, c]
  · rw [decide_eq_false h] at c
    simp [-ixD, -biD, f_p_stands, b_p_stands, zone_0, c, stdB, h, he, bi_any]
@[simp] theorem isLst_nm (a : List Str) : isLst (nm a) = false := rfl
@[simp] theorem isLst_vals (a : List Str) : isLst (.list (a.map PyData.str)) = true := rfl
def sDown : Str := Str.ofString "down"
def sElse : Str := Str.ofString "else"
structure GoodR (r : Row) : Prop where
  n : r.kind = Str.ofString "down" ∨ r.kind = Str.ofString "else" → ∃ a, r.val = .n a
  s : r.kind ≠ Str.ofString "down" → r.kind ≠ Str.ofString "else" → ∃ x, r.val = .s x
def strOf (r : Row) : Str := match r.val with
  | .s x => x
  | .n _ => tx []
def nmOf (r : Row) : List Str := match r.val with
  | .n a => a
  | .s _ => []
theorem row_1 (r : Row) : ixD (rowD r) (.int 1) = .ok (.int r.life) := by simp [rowD, L2.atI, L2.ixN]
theorem zone_1 (t : List Str) (l : Int) (R : List Row) : ixD (zoneD t l R) (.int 1) = .ok (.int l) := by simp [zoneD, L2.atI, L2.ixN]
theorem strsD_map : ∀ ws : List Str, strsD (ws.map PyData.str) = some ws
  | [] => rfl
  | w :: ws => by simp [strsD, strsD_map ws]
theorem intsD_map : ∀ ws : List Int, intsD (ws.map PyData.int) = some ws
  | [] => rfl
  | w :: ws => by simp [intsD, intsD_map ws]
theorem bi_sorted (ws : List Str) (h : ws.length < 64) : biD .sorted [.list (ws.map .str)] = .ok (.list ((sortStr ws).map .str)) := by
  simp only [biD, sortD, strsD_map]
  rw [if_pos h]
def minI : List Int → Int
  | [] => 0
  | n :: r => minL n r
theorem bi_min (l : List Int) (h : l ≠ []) : biD .min1 [.list (l.map .int)] = .ok (.int (minI l)) := by
  simp only [biD, minD, intsD_map]
  cases l with
  | nil => exact absurd rfl h
  | cons n r => rfl
inductive Ans where
  | down (cut house : List Str) (doors : List Str) (life : Int)
  | els (to : List Str) (life : Int)
  | empty (life : Int)
  | rows (vs : List Str) (life : Int)
  | non (life : Int)
def ansD : Ans → Dat
  | .down c h ds l => .tuple [.str (Str.ofString "down"), nm c, nm h, .list (ds.map .str), .int l]
  | .els t l => .tuple [.str (Str.ofString "else"), nm t, .int l]
  | .empty l => .tuple [.str (Str.ofString "empty"), .int l]
  | .rows vs l => .tuple [.str (Str.ofString "rows"), .list (vs.map .str), .int l]
  | .non l => .tuple [.str (Str.ofString "none"), .int l]
theorem ans_tup (a : Ans) : isiD .tuple (ansD a) = .ok true := by cases a <;> rfl
theorem ans_sh (a : Ans) : shOk (ansD a) = true := by
  have hs : ∀ vs : List Str, ndc (.list (vs.map PyData.str)) = true := fun vs => encS.lst.ndc vs
  have hn : ∀ n : List Str, ndc (nm n) = true := fun n => encN.ndc n
  have hd : PyData.depth (ansD a) ≤ 2 := by
    cases a <;> refine depth_tup _ fun d hd => ?_ <;> simp only [List.mem_cons, List.not_mem_nil, or_false] at hd
    · rcases hd with rfl | rfl | rfl | rfl | rfl
      · simp [PyData.depth]
      · exact encN.dep _
      · exact encN.dep _
      · exact encS.lst.dep _
      · simp [PyData.depth]
    · rcases hd with rfl | rfl | rfl
      · simp [PyData.depth]
      · exact encN.dep _
      · simp [PyData.depth]
    · rcases hd with rfl | rfl <;> simp [PyData.depth]
    · rcases hd with rfl | rfl | rfl
      · simp [PyData.depth]
      · exact encS.lst.dep _
      · simp [PyData.depth]
    · rcases hd with rfl | rfl <;> simp [PyData.depth]
  have hc : ndc (ansD a) = true := by
    cases a with
    | down c h ds l =>
      have e : ndc (ansD (.down c h ds l)) = (true && (ndc (nm c) && (ndc (nm h) && (ndc (.list (ds.map PyData.str)) && (true && true))))) := rfl
      rw [e, hn, hn, hs]
      rfl
    | els t l =>
      have e : ndc (ansD (.els t l)) = (true && (ndc (nm t) && (true && true))) := rfl
      rw [e, hn]
      rfl
    | empty l => rfl
    | rows vs l =>
      have e : ndc (ansD (.rows vs l)) = (true && (ndc (.list (vs.map PyData.str)) && (true && true))) := rfl
      rw [e, hs]
      rfl
    | non l => rfl
  simp only [shOk, hc, Bool.true_and]
  exact decide_eq_true (by omega)
theorem ans_ne (a : Ans) : cmpD .ne (ansD a) (ansD a) = .ok false := by
  have h := ans_sh a
  rw [cmpNe _ _ h h]
  have : ndc (ansD a) = true := by
    unfold shOk at h
    rw [Bool.and_eq_true] at h
    exact h.1
  rw [eqv_refl _ this]
  rfl
theorem ans_eq (a : Ans) : cmpD .eq (ansD a) (ansD a) = .ok true := by
  have h := ans_sh a
  rw [cmpEq _ _ h h]
  have : ndc (ansD a) = true := by
    unfold shOk at h
    rw [Bool.and_eq_true] at h
    exact h.1
  rw [eqv_refl _ this]
/-- what rows tell about a kind -/
def toldBy (life : Int) (rows : List Row) (k : Str) : Ans := match rows.find? fun r => decide (r.kind = Str.ofString "else") with
  | some r => .els (nmOf r) r.life
  | none => if rows.filter (fun r => decide (r.kind = k)) = [] then .empty life else .rows (sortStr ((rows.filter fun r => decide (r.kind = k)).map strOf)) (minI ((rows.filter fun r => decide (r.kind = k)).map Row.life))
theorem rows_nil (F : List Row) : cmpD .eq (.list (F.map rowD)) (.list []) = .ok (decide (F = [])) := encR.lst.eq (by decide) F []
theorem good_s (r : Row) (g : GoodR r) (k : Str) (hk : r.kind = k) (h1 : k ≠ Str.ofString "down") (h2 : k ≠ Str.ofString "else") : valD r.val = .str (strOf r) := by
  obtain ⟨x, hx⟩ := g.s (by rw [hk]; exact h1) (by rw [hk]; exact h2)
  unfold strOf
  rw [hx]
  rfl
theorem good_n (r : Row) (g : GoodR r) (h : r.kind = Str.ofString "down" ∨ r.kind = Str.ofString "else") : valD r.val = nm (nmOf r) := by
  obtain ⟨x, hx⟩ := g.n h
  unfold nmOf
  rw [hx]
  rfl
theorem r_told_by (t : List Str) (l : Int) (Z R : List Row) (k : Str) (hR : R.length < 64) (g : ∀ r ∈ R, GoodR r) (h1 : k ≠ Str.ofString "down") (h2 : k ≠ Str.ofString "else") :
    f_p_told_by [zoneD t l Z, .list (R.map rowD), .str k] = .ok (ansD (toldBy l R k)) := by
  have hw := for_find (P := Q_p_told_by) (tmp := [3]) (tg := .nm 3) (it := .seq (.var 1)) (body := v0_p_told_by) (ρ := [.fz (zoneD t l Z), .fz (.list (R.map rowD)), .fz (.str k), .un, .un]) rowD R (fun r => decide (r.kind = Str.ofString "else")) (fun r => ansD (.els (nmOf r) r.life)) [.fz (zoneD t l Z), .fz (.list (R.map rowD)), .fz (.str k), .un, .un]
    (by simp) rfl fun r hr => ⟨_, rfl, fun h => by
      rw [decide_eq_true_eq] at h
      have gn := good_n r (g r hr) (.inr h)
      simp [-ixD, v0_p_told_by, row_1, row_2, row_3, h, gn, ansD], fun h => ⟨[.fz (zoneD t l Z), .fz (.list (R.map rowD)), .fz (.str k), .fz (rowD r), .un], .inl (by
      rw [decide_eq_false_iff_not] at h
      simp [-ixD, v0_p_told_by, row_2, h]), rfl⟩⟩
  have hw' : exS Q_p_told_by w0_p_told_by [.fz (zoneD t l Z), .fz (.list (R.map rowD)), .fz (.str k), .un, .un] = _ := hw
  have he : ev Q_p_told_by e0_p_told_by [.fz (zoneD t l Z), .fz (.list (R.map rowD)), .fz (.str k), .un, .un] = .ok (.list ((R.filter fun r => decide (r.kind = k)).map rowD)) := by
    refine lc_filter rowD rowD (fun r => decide (r.kind = k)) R ?_ (by omega) fun r _ => ⟨_, rfl, ?_, fun _ => ?_⟩
    · simp
    · show tR _ = _
      simp [-ixD, row_2]
    · simp
  unfold toldBy
  generalize R.find? (fun r => decide (r.kind = Str.ofString "else")) = o at hw'
  have hF : ∀ r ∈ R.filter (fun r => decide (r.kind = k)), r ∈ R ∧ r.kind = k := fun r hr => by
    rw [List.mem_filter, decide_eq_true_eq] at hr
    exact hr
  have hl : (R.filter fun r => decide (r.kind = k)).length < 64 := Nat.lt_of_le_of_lt (List.length_filter_le _ _) hR
  generalize R.filter (fun r => decide (r.kind = k)) = F at *
  cases o with
  | some r => simp [f_p_told_by, b_p_told_by, hw']
  | none =>
    have c := rows_nil F
    by_cases hz : F = []
    · rw [decide_eq_true hz] at c
      rw [if_pos hz]
      simp [-ixD, f_p_told_by, b_p_told_by, hw', he, c, zone_1, ansD]
    · rw [decide_eq_false hz] at c
      rw [if_neg hz]
      have e1 : ev Q_p_told_by e1_p_told_by [.fz (zoneD t l Z), .fz (.list (R.map rowD)), .fz (.str k), .un, .fz (.list (F.map rowD))] = .ok (.list ((F.map strOf).map .str)) := by
        rw [List.map_map]
        refine lc_map rowD (fun r => PyData.str (strOf r)) F ?_ (by omega) fun r hr => ⟨_, rfl, ?_, ?_⟩
        · simp
        · simp
        · have gs := good_s r (g r (hF r hr).1) k (hF r hr).2 h1 h2
          simp [-ixD, row_3, gs]
      have e2 : ev Q_p_told_by e2_p_told_by [.fz (zoneD t l Z), .fz (.list (R.map rowD)), .fz (.str k), .un, .fz (.list (F.map rowD))] = .ok (.list ((F.map Row.life).map .int)) := by
        rw [List.map_map]
        refine lc_map rowD (fun r => PyData.int r.life) F ?_ (by omega) fun r hr => ⟨_, rfl, ?_, ?_⟩
        · simp
        · simp
        · simp [-ixD, row_1]
      have b1 := bi_sorted (F.map strOf) (by simpa using hl)
      have b2 := bi_min (F.map Row.life) (by simpa using hz)
      simp [-ixD, -biD, -List.map_map, f_p_told_by, b_p_told_by, hw', he, c, e1, e2, b1, b2, ansD]
def doorsAt (R : List Row) (cut house : List Str) : List Row := if house.take cut.length = cut then (rowsAt R house).filter fun r => decide (r.kind = Str.ofString "door") else []
theorem r_doors_at (t c h : List Str) (l : Int) (R : List Row) (hR : R.length ≤ 1000000) : f_p_doors_at [zoneD t l R, nm c, nm h] = .ok (.list ((doorsAt R c h).map rowD)) := by
  have hl : (rowsAt R h).length ≤ 1000000 := Nat.le_trans (List.length_filter_le _ _) hR
  have he : ev Q_p_doors_at e0_p_doors_at [.fz (zoneD t l R), .fz (nm c), .fz (nm h), .un] = .ok (.list (((rowsAt R h).filter fun r => decide (r.kind = Str.ofString "door")).map rowD)) := by
    refine lc_filter rowD rowD (fun r => decide (r.kind = Str.ofString "door")) (rowsAt R h) ?_ hl fun r _ => ⟨_, rfl, ?_, fun _ => ?_⟩
    · simp [r_rows_at t h l R hR]
    · show tR _ = _
      simp [-ixD, row_2]
    · simp
  have a := r_at h c
  unfold doorsAt
  by_cases hh : h.take c.length = c
  · rw [decide_eq_true hh] at a
    rw [if_pos hh]
    simp [f_p_doors_at, b_p_doors_at, a, he]
  · rw [decide_eq_false hh] at a
    rw [if_neg hh]
    simp [f_p_doors_at, b_p_doors_at, a]
def toldDown (R : List Row) (c : List Str) (r : Row) : Ans :=
  .down c (nmOf r) (sortStr ((doorsAt R c (nmOf r)).map strOf)) (minI (r.life :: (doorsAt R c (nmOf r)).map Row.life))
theorem rows_sub (R : List Row) (n : List Str) : ∀ r ∈ rowsAt R n, r ∈ R ∧ r.nm = n := fun r hr => by
  unfold rowsAt at hr
  rw [List.mem_filter, decide_eq_true_eq] at hr
  exact hr
theorem doors_sub (R : List Row) (c h : List Str) : ∀ r ∈ doorsAt R c h, r ∈ R ∧ r.kind = Str.ofString "door" := fun r hr => by
  unfold doorsAt at hr
  split at hr
  · rw [List.mem_filter, decide_eq_true_eq] at hr
    exact ⟨(rows_sub R h r hr.1).1, hr.2⟩
  · simp at hr
theorem doors_len (R : List Row) (c h : List Str) : (doorsAt R c h).length ≤ R.length := by
  unfold doorsAt
  split
  · exact Nat.le_trans (List.length_filter_le _ _) (List.length_filter_le _ _)
  · simp
theorem down_good (R : List Row) (n : List Str) (r : Row) (h : downAt R n = some r) : r ∈ R ∧ r.nm = n ∧ r.kind = Str.ofString "down" := by
  unfold downAt at h
  have h1 := List.mem_of_find?_eq_some h
  have h2 := List.find?_some h
  rw [decide_eq_true_eq] at h2
  exact ⟨(rows_sub R n r h1).1, (rows_sub R n r h1).2, h2⟩
theorem door_ne : Str.ofString "door" ≠ Str.ofString "down" ∧ Str.ofString "door" ≠ Str.ofString "else" := by decide +kernel
theorem r_told_down (t c : List Str) (l : Int) (R : List Row) (hR : R.length < 64) (g : ∀ r ∈ R, GoodR r) (r : Row) (hd : downAt R c = some r) : f_p_told_down [zoneD t l R, nm c] = .ok (ansD (toldDown R c r)) := by
  obtain ⟨d1, d2, d3⟩ := down_good R c r hd
  have gn := good_n r (g r d1) (.inl d3)
  have hda := r_down_at t c l R (by omega)
  rw [hd] at hda
  have hdo := r_doors_at t c (nmOf r) l R (by omega)
  have hF := doors_sub R c (nmOf r)
  have hl := doors_len R c (nmOf r)
  unfold toldDown
  generalize doorsAt R c (nmOf r) = F at *
  have e1 : ∀ x, ev Q_p_told_down e0_p_told_down [.fz (zoneD t l R), .fz (nm c), .fz (rowD r), .fz (.list (F.map rowD)), x, .un] = .ok (.list ((F.map Row.life).map .int)) := fun x => by
    rw [List.map_map]
    refine lc_map rowD (fun r => PyData.int r.life) F ?_ (by omega) fun r hr => ⟨_, rfl, ?_, ?_⟩
    · simp
    · simp
    · simp [-ixD, row_1]
  have e2 : ∀ x, ev Q_p_told_down e1_p_told_down [.fz (zoneD t l R), .fz (nm c), .fz (rowD r), .fz (.list (F.map rowD)), x, .un] = .ok (.list ((F.map strOf).map .str)) := fun x => by
    rw [List.map_map]
    refine lc_map rowD (fun r => PyData.str (strOf r)) F ?_ (by omega) fun r hr => ⟨_, rfl, ?_, ?_⟩
    · simp
    · simp
    · have gs := good_s r (g r (hF r hr).1) _ (hF r hr).2 door_ne.1 door_ne.2
      simp [-ixD, row_3, gs]
  have b1 := bi_sorted (F.map strOf) (by rw [List.length_map]; omega)
  have b2 := bi_min (r.life :: F.map Row.life) (by simp)
  have b3 : binD .add (.list [.int r.life]) (.list ((F.map Row.life).map .int)) = .ok (.list ((r.life :: F.map Row.life).map .int)) := by
    rw [bin_lst _ _ (by simp; omega)]
    rfl
  generalize minI (r.life :: F.map Row.life) = m at *
  generalize r.life :: F.map Row.life = L at *
  simp [-ixD, -biD, -List.map_map, f_p_told_down, b_p_told_down, hda, optD, row_3, row_1, gn, hdo, e1, e2, b1, b2, b3, ansD]
def lastStd (t : List Str) (R : List Row) (n : List Str) : Nat → Nat
  | 0 => 0
  | k + 1 => if stdB t R (n.take (k + 1)) = true then k + 1 else lastStd t R n k
def lookAt (t : List Str) (R : List Row) (n : List Str) : List Str := if stdB t R n = true then n else n.take (lastStd t R n (n.length - 1)) ++ [Str.ofString "*"]
theorem std_top (t : List Str) (R : List Row) : stdB t R t = true := by simp [stdB]
theorem last_std (t : List Str) (R : List Row) (n : List Str) (h : n.take t.length = t) : ∀ k, t.length ≤ k → stdB t R (n.take (lastStd t R n k)) = true ∧ lastStd t R n k ≤ k ∧ t.length ≤ lastStd t R n k
  | 0, hk => by
    have e : t = [] := List.eq_nil_of_length_eq_zero (by omega)
    subst e
    simp [lastStd, stdB]
  | k + 1, hk => by
    unfold lastStd
    split
    · rename_i hs
      exact ⟨hs, Nat.le_refl _, hk⟩
    · rename_i hs
      have hk' : t.length ≤ k := by
        by_cases e : t.length = k + 1
        · rw [← e, h, std_top] at hs
          exact absurd rfl hs
        · omega
      obtain ⟨h1, h2, h3⟩ := last_std t R n h k hk'
      exact ⟨h1, by omega, h3⟩
theorem drop_last (n : List Str) : slD (nm n) none (some (-1)) = .ok (nm (n.take (n.length - 1))) := by
  have e : cutL n none (some (-1)) = n.take (n.length - 1) := cut_toneg n 1 (by omega)
  simp only [slD, nm, cut_map, e]
theorem r_look_at (t n : List Str) (l : Int) (R : List Row) (hR : R.length ≤ 1000000) (h : n.take t.length = t) (hn : n.length ≤ 900) : f_p_look_at [zoneD t l R, nm n] = .ok (nm (lookAt t R n)) := by
  have s0 := r_stands t n l R hR
  unfold lookAt
  by_cases hs : stdB t R n = true
  · rw [hs] at s0
    rw [if_pos hs]
    simp [f_p_look_at, b_p_look_at, s0]
  · rw [if_neg hs]
    rw [Bool.not_eq_true] at hs
    rw [hs] at s0
    have ht : t.length ≤ n.length - 1 := by
      have h1 : t.length ≤ n.length := by
        have := congrArg List.length h
        rw [List.length_take] at this
        omega
      by_cases e : t.length = n.length
      · rw [e, List.take_of_length_le (Nat.le_refl _)] at h
        rw [h, std_top] at hs
        cases hs
      · omega
    have hw : exS Q_p_look_at w0_p_look_at [.fz (zoneD t l R), .fz (nm n), .fz (nm (n.take (n.length - 1)))] = .nx [.fz (zoneD t l R), .fz (nm n), .fz (nm (n.take (lastStd t R n (n.length - 1))))] := by
      refine whil_st (fun k : Nat => [Sl.fz (zoneD t l R), .fz (nm n), .fz (nm (n.take k))]) (fun k => k ≤ n.length - 1 ∧ t.length ≤ k ∧ lastStd t R n k = lastStd t R n (n.length - 1)) (fun k => k) (fun o => o = .nx [.fz (zoneD t l R), .fz (nm n), .fz (nm (n.take (lastStd t R n (n.length - 1))))]) (n.length - 1) ⟨Nat.le_refl _, ht, rfl⟩ rfl (by show n.length - 1 < 1000; omega) fun k ⟨k1, k2, k3⟩ => ?_
      have sk := r_stands t (n.take k) l R hR
      by_cases hk : stdB t R (n.take k) = true
      · left
        rw [hk] at sk
        refine ⟨by simp [sk], ?_⟩
        have e : lastStd t R n k = k := by
          cases k with
          | zero => rfl
          | succ k => unfold lastStd; rw [if_pos hk]
        rw [← k3, e]
      · right
        have hk2 := hk
        rw [Bool.not_eq_true] at hk
        rw [hk] at sk
        have hpos : t.length < k := by
          by_cases e : t.length = k
          · rw [← e, h, std_top] at hk
            cases hk
          · omega
        refine ⟨by simp [sk], .inl ⟨k - 1, [.fz (zoneD t l R), .fz (nm n), .fz (nm (n.take (k - 1)))], .inl ?_, rfl, ⟨by omega, by omega, ?_⟩, by omega⟩⟩
        · have d := drop_last (n.take k)
          have e : (n.take k).take ((n.take k).length - 1) = n.take (k - 1) := by
            rw [List.length_take, List.take_take]
            congr 1
            omega
          rw [e] at d
          simp [-slD, v0_p_look_at, d]
        · rw [← k3]
          obtain ⟨j, rfl⟩ : ∃ j, k = j + 1 := ⟨k - 1, by omega⟩
          show lastStd t R n j = lastStd t R n (j + 1)
          conv => rhs; unfold lastStd
          rw [if_neg hk2]
    have d := drop_last n
    have b : binD .add (nm (n.take (lastStd t R n (n.length - 1)))) (.tuple [.str (Str.ofString "*")]) = .ok (nm (n.take (lastStd t R n (n.length - 1)) ++ [Str.ofString "*"])) := by
      simp only [nm]
      rw [bin_tup _ _ (by simp; omega)]
      simp
    simp [-slD, f_p_look_at, b_p_look_at, s0, d, hw, b]
/-- what a zone tells of a name -/
def toldO (t : List Str) (l : Int) (R : List Row) (n : List Str) (k : Str) : Ans := match cutOf t R n with
  | some c => match downAt R c with
    | some r => toldDown R c r
    | none => .non l
  | none => if rowsAt R (lookAt t R n) = [] ∧ lookAt t R n ≠ n then .non l else toldBy l (rowsAt R (lookAt t R n)) k
theorem cut_down (t : List Str) (R : List Row) (n c : List Str) (h : cutOf t R n = some c) : ∃ r, downAt R c = some r := by
  unfold cutOf at h
  rw [Option.map_eq_some_iff] at h
  obtain ⟨k, h1, rfl⟩ := h
  have h2 := List.find?_some h1
  rw [Bool.and_eq_true] at h2
  exact Option.isSome_iff_exists.mp h2.2
theorem r_told (t n : List Str) (l : Int) (R : List Row) (k : Str) (hR : R.length < 64) (g : ∀ r ∈ R, GoodR r) (h : n.take t.length = t) (hn : n.length ≤ 900) (h1 : k ≠ Str.ofString "down") (h2 : k ≠ Str.ofString "else") :
    f_p_told [zoneD t l R, nm n, .str k] = .ok (ansD (toldO t l R n k)) := by
  have c := r_cut_of t n l R (by omega) (by omega)
  unfold toldO
  cases hc : cutOf t R n with
  | some p =>
    rw [hc] at c
    obtain ⟨r, hr⟩ := cut_down t R n p hc
    have q := r_told_down t p l R hR g r hr
    have e : cmpD .ntN (nm p) .none = .ok true := rfl
    simp [f_p_told, b_p_told, c, optD, e, q, hr]
  | none =>
    rw [hc] at c
    have e : cmpD .ntN .none .none = .ok false := rfl
    have a := r_look_at t n l R (by omega) h hn
    have b := r_rows_at t (lookAt t R n) l R (by omega)
    have gR : ∀ r ∈ rowsAt R (lookAt t R n), GoodR r := fun r hr => g r (rows_sub _ _ r hr).1
    have lR : (rowsAt R (lookAt t R n)).length < 64 := Nat.lt_of_le_of_lt (List.length_filter_le _ _) hR
    have d := r_told_by t l R (rowsAt R (lookAt t R n)) k lR gR h1 h2
    have c1 := rows_nil (rowsAt R (lookAt t R n))
    have c2 := cmpn_nm (lookAt t R n) n
    generalize rowsAt R (lookAt t R n) = F at *
    generalize lookAt t R n = m at *
    simp only
    by_cases hz : F = []
    · rw [decide_eq_true hz] at c1
      by_cases hm : m = n
      · rw [decide_eq_true hm] at c2
        rw [if_neg (fun h => h.2 hm)]
        simp [-ixD, f_p_told, b_p_told, c, optD, e, a, b, c1, c2, d]
      · rw [decide_eq_false hm] at c2
        rw [if_pos ⟨hz, hm⟩]
        simp [-ixD, f_p_told, b_p_told, c, optD, e, a, b, c1, c2, zone_1, ansD]
    · rw [decide_eq_false hz] at c1
      rw [if_neg (fun h => hz h.1)]
      simp [-ixD, f_p_told, b_p_told, c, optD, e, a, b, c1, d]
theorem zo_0 (z : Zn) : ixD (zoD z) (.int 0) = .ok (nm z.top) := by simp [zoD, zoneD, L2.atI, L2.ixN]
theorem zo_1 (z : Zn) : ixD (zoD z) (.int 1) = .ok (.int z.life) := by simp [zoD, zoneD, L2.atI, L2.ixN]
theorem zo_2 (z : Zn) : ixD (zoD z) (.int 2) = .ok (.list (z.rows.map rowD)) := by simp [zoD, zoneD, L2.atI, L2.ixN]
theorem lk_hs (L : List (Str × List Zn)) (d : Str) : lkD (L.map fun e => (PyData.str e.1, PyData.list (e.2.map zoD))) d = (L.find? fun e => decide (e.1 = d)).map fun e => .list (e.2.map zoD) := by
  induction L with
  | nil => rfl
  | cons x H ih =>
    simp only [List.map_cons, lkD, List.find?_cons]
    by_cases g : x.1 = d
    · simp [g]
    · simp only [g, if_false, decide_false]
      exact ih
theorem lk_at (L : List (Str × List Zn)) (d : Str) : (lkD (L.map fun e => (PyData.str e.1, PyData.list (e.2.map zoD))) d).getD (.list []) = .list ((atP L d).map zoD) := by
  rw [lk_hs]
  unfold atP
  cases L.find? fun e => decide (e.1 = d) <;> rfl
theorem r_zones_at (L : List (Str × List Zn)) (d : Str) : f_p_zones_at [hsP L, .str d] = .ok (.list ((atP L d).map zoD)) := by
  have e := lk_at L d
  unfold hsP
  simp only [f_p_zones_at, b_p_zones_at, runF, exSs, exS, List.map, List.replicate, List.length, ev, getS, varR]
  simp [ev, isDct, strD, e]
def optZ : Option Zn → Dat
  | none => .none
  | some z => zoD z
theorem r_kept (L : List (Str × List Zn)) (d : Str) (t : List Str) : f_p_kept [hsP L, .str d, nm t] = .ok (optZ ((atP L d).find? fun z => decide (z.top = t))) := by
  have hw : exS Q_p_kept w0_p_kept [.fz (hsP L), .fz (.str d), .fz (nm t), .un] = foundO zoD [.fz (hsP L), .fz (.str d), .fz (nm t), .un] ((atP L d).find? fun z => decide (z.top = t)) := by
    refine for_find zoD (atP L d) (fun z => decide (z.top = t)) zoD _ (by simp [r_zones_at]) rfl fun z _ => ⟨_, rfl, fun g => ?_, fun g => ⟨[.fz (hsP L), .fz (.str d), .fz (nm t), .fz (zoD z)], .inl ?_, rfl⟩⟩
    · have g := of_decide_eq_true g
      have c := cmp_nm z.top t
      rw [decide_eq_true g] at c
      simp [-ixD, v0_p_kept, zo_0, zo_1, zo_2, c]
      rfl
    · have g := of_decide_eq_false g
      have c := cmp_nm z.top t
      rw [decide_eq_false g] at c
      simp [-ixD, v0_p_kept, zo_0, c]
  cases q : (atP L d).find? fun z => decide (z.top = t) with
  | none =>
    rw [q] at hw
    simp [f_p_kept, b_p_kept, hw, foundO, optZ]
  | some z =>
    rw [q] at hw
    simp [f_p_kept, b_p_kept, hw, foundO, optZ]

def downs (R : List Row) : List (List Str) := (R.filter fun r => decide (r.kind = Str.ofString "down")).map Row.nm
theorem down_some (R : List Row) (n : List Str) : (downAt R n).isSome = decide (n ∈ downs R) := by
  rw [Bool.eq_iff_iff, decide_eq_true_eq]
  simp only [downAt, rowsAt, downs, List.find?_isSome, List.mem_map, List.mem_filter, decide_eq_true_eq]
  constructor
  · rintro ⟨r, ⟨h1, h2⟩, h3⟩
    exact ⟨r, ⟨h1, h3⟩, h2⟩
  · rintro ⟨r, ⟨h1, h3⟩, h2⟩
    exact ⟨r, ⟨h1, h2⟩, h3⟩
def dueOf (t : List Str) (R : List Row) (n : List Str) : Option (List Str) := ((List.range (n.length - t.length)).find? fun i => decide (n.take (t.length + 1 + i) ∈ downs R)).map fun i => n.take (t.length + 1 + i)
theorem due_cut (t : List Str) (R : List Row) (n : List Str) : cutOf t R n = dueOf t R n := by
  unfold cutOf dueOf
  by_cases h : t.length ≤ n.length
  · have e : n.length + 1 = (t.length + 1) + (n.length - t.length) := by omega
    rw [e, List.range_add, List.find?_append]
    have e1 : (List.range (t.length + 1)).find? (fun k => decide (t.length < (n.take k).length) && (downAt R (n.take k)).isSome) = none := by
      rw [List.find?_eq_none]
      intro k hk
      have hk' := List.mem_range.mp hk
      have : ¬ t.length < (n.take k).length := by simp; omega
      simp only [decide_eq_false this, Bool.false_and, Bool.false_eq_true, not_false_eq_true]
    rw [e1, Option.none_or, List.find?_map, Option.map_map]
    have e2 : (List.range (n.length - t.length)).find? ((fun k => decide (t.length < (n.take k).length) && (downAt R (n.take k)).isSome) ∘ (fun x => t.length + 1 + x)) = (List.range (n.length - t.length)).find? (fun i => decide (n.take (t.length + 1 + i) ∈ downs R)) := by
      have : ∀ l : List Nat, (∀ x ∈ l, x < n.length - t.length) → l.find? ((fun k => decide (t.length < (n.take k).length) && (downAt R (n.take k)).isSome) ∘ (fun x => t.length + 1 + x)) = l.find? (fun i => decide (n.take (t.length + 1 + i) ∈ downs R)) := by
        intro l
        induction l with
        | nil => intro _; rfl
        | cons x l ih =>
          intro hx
          have hx0 := hx x (by simp)
          have e3 : ((fun k => decide (t.length < (n.take k).length) && (downAt R (n.take k)).isSome) ∘ (fun x => t.length + 1 + x)) x = decide (n.take (t.length + 1 + x) ∈ downs R) := by
            have : t.length < (n.take (t.length + 1 + x)).length := by rw [List.length_take]; omega
            simp only [Function.comp, decide_eq_true this, Bool.true_and, down_some]
          rw [List.find?_cons, List.find?_cons, e3, ih fun y hy => hx y (by simp [hy])]
      exact this _ fun x hx => List.mem_range.mp hx
    rw [e2]
    rfl
  · have e : n.length - t.length = 0 := by omega
    rw [e]
    have e1 : (List.range (n.length + 1)).find? (fun k => decide (t.length < (n.take k).length) && (downAt R (n.take k)).isSome) = none := by
      rw [List.find?_eq_none]
      intro k hk
      have : ¬ t.length < (n.take k).length := by simp; omega
      simp only [decide_eq_false this, Bool.false_and, Bool.false_eq_true, not_false_eq_true]
    rw [e1]
    rfl
def fdD (o : List Str × Str) : Dat := .tuple [nm o.1, .str o.2]
theorem fd_0 (o : List Str × Str) : ixD (fdD o) (.int 0) = .ok (nm o.1) := by simp [fdD, L2.atI, L2.ixN]
theorem fd_1 (o : List Str × Str) : ixD (fdD o) (.int 1) = .ok (.str o.2) := by simp [fdD, L2.atI, L2.ixN]
theorem r_charge_of (F : List (List Str × Str)) (root : Str) (hF : F.head? = some ([], root)) (n : List Str) : f_p_charge_of [.list (F.map fdD), nm n] = .ok (fdD (CHT.charge root F n)) := by
  have h0 : ixD (.list (F.map fdD)) (.int 0) = .ok (fdD ([], root)) := by
    cases F with
    | nil => cases hF
    | cons o F => simp at hF; subst hF; simp [L2.atI, L2.ixN]
  have hw : exS Q_p_charge_of w0_p_charge_of [.ln (F.map fdD), .fz (nm n), .fz (fdD ([], root)), .un] = .nx [.ln (F.map fdD), .fz (nm n), .fz (fdD (CHT.charge root F n)), .un] := by
    refine (for_fold fdD F (fun b => [.ln (F.map fdD), .fz (nm n), .fz (fdD b), .un]) (CHT.chgS n) (fun _ _ => True) ([], root) (by simp) trivial rfl fun b o r _ _ => ⟨trivial, [.ln (F.map fdD), .fz (nm n), .fz (fdD b), .fz (fdD o)], [.ln (F.map fdD), .fz (nm n), .fz (fdD (CHT.chgS n b o)), .fz (fdD o)], rfl, .inl ?_, rfl⟩).1
    have ha := r_at n o.1
    have el : ∀ m : List Str, biD .len [nm m] = .ok (.int m.length) := fun m => by simp only [biD, nm, List.length_map]
    have el1 := el o.1
    have el2 := el b.1
    unfold CHT.chgS
    by_cases g1 : n.take o.1.length = o.1
    · rw [decide_eq_true g1] at ha
      by_cases g2 : b.1.length < o.1.length
      · rw [if_pos ⟨g1, g2⟩]
        simp [-ixD, -biD, v0_p_charge_of, fd_0, ha, el1, el2, g2]
      · rw [if_neg (fun w => g2 w.2)]
        simp [-ixD, -biD, v0_p_charge_of, fd_0, ha, el1, el2, g2]
    · rw [decide_eq_false g1] at ha
      rw [if_neg (fun w => g1 w.1)]
      simp [-ixD, v0_p_charge_of, fd_0, ha]
  simp [-ixD, f_p_charge_of, b_p_charge_of, h0, hw]
/-- what a zone must be for the tree -/
structure GdT (z : Zn) (P : List (List Str)) : Prop where
  len : z.rows.length < 64
  row : ∀ r ∈ z.rows, GoodR r
  sub : ∀ r ∈ z.rows, z.top <+: r.nm
  dn : (downs z.rows).Nodup
  nl : ∀ r ∈ z.rows, r.nm.length ≤ 900
  nP : ∀ r ∈ z.rows, r.kind = Str.ofString "down" → r.nm ∈ P
  vP : ∀ r ∈ z.rows, ∀ a, r.val = .n a → a ∈ P
structure GdL (L : List (Str × List Zn)) (P : List (List Str)) : Prop where
  zn : ∀ d, ∀ z ∈ atP L d, GdT z P
  pl : P.length ≤ 450
  pn : ∀ a ∈ P, a.length ≤ 900
def kpZ (L : List (Str × List Zn)) (d : Str) (t : List Str) : Option Zn := (atP L d).find? fun z => decide (z.top = t)
theorem kpZ_mem {L : List (Str × List Zn)} {d : Str} {t : List Str} {z : Zn} (h : kpZ L d t = some z) : z ∈ atP L d ∧ z.top = t := ⟨List.mem_of_find?_eq_some h, by simpa using List.find?_some h⟩
def replyO (L : List (Str × List Zn)) (root : Str) (F : List (List Str × Str)) (n : List Str) (k : Str) : Option Ans := (kpZ L (CHT.charge root F n).2 (CHT.charge root F n).1).map fun z => toldO z.top z.life z.rows n k
def rpD : Option Ans → Dat
  | none => .tuple [.str (Str.ofString "away")]
  | some a => ansD a
theorem r_reply_of (L : List (Str × List Zn)) (P : List (List Str)) (g : GdL L P) (F : List (List Str × Str)) (root : Str) (h : CHT.Hd root F) (n : List Str) (hn : n.length ≤ 900) (k : Str) (k1 : k ≠ Str.ofString "down") (k2 : k ≠ Str.ofString "else") :
    f_p_reply_of [hsP L, .list (F.map fdD), nm n, .str k] = .ok (rpD (replyO L root F n k)) := by
  have hc := r_charge_of F root h.hd n
  have hp := (CHT.take_pre _ _).mpr (CHT.charge_mem h n).2.1
  unfold replyO
  generalize CHT.charge root F n = c at *
  have hk := r_kept L c.2 c.1
  have e1 : fdD c = .tuple [nm c.1, .str c.2] := rfl
  rw [e1] at hc
  cases q : kpZ L c.2 c.1 with
  | none =>
    have q' := q
    unfold kpZ at q'
    rw [q'] at hk
    have en : cmpD .isN .none .none = .ok true := rfl
    simp [f_p_reply_of, b_p_reply_of, hc, hk, optZ, en, rpD, setT]
  | some z =>
    obtain ⟨zm, zt⟩ := kpZ_mem q
    have q' := q
    unfold kpZ at q'
    rw [q'] at hk
    have gz := g.zn _ z zm
    have et := r_told z.top n z.life z.rows k gz.len gz.row (by rw [zt]; exact hp) hn k1 k2
    have et' : f_p_told [zoD z, nm n, .str k] = .ok (ansD (toldO z.top z.life z.rows n k)) := et
    have en : cmpD .isN (zoD z) .none = .ok false := rfl
    simp [f_p_reply_of, b_p_reply_of, hc, hk, optZ, en, et', rpD, setT]
/-! a zone, in the abstract -/
abbrev SCut := CHT.Cut Str Str
def cutD (c : SCut) : Dat := ansD (.down c.nm c.house c.doors c.life)
def rpOf : Ans → CHT.Rp Str Str
  | .down c h ds l => .down ⟨c, h, ds, l⟩
  | .els t _ => .els t
  | .rows vs _ => .rows vs
  | _ => .oth
def cutA (R : List Row) (c : List Str) : SCut := match downAt R c with
  | some r => ⟨c, nmOf r, sortStr ((doorsAt R c (nmOf r)).map strOf), minI (r.life :: (doorsAt R c (nmOf r)).map Row.life)⟩
  | none => ⟨c, [], [], 0⟩
theorem cutA_nm (R : List Row) (c : List Str) : (cutA R c).nm = c := by unfold cutA; split <;> rfl
def ownC (t : List Str) (R : List Row) : List (List Str) := (downs R).filter fun c => decide (cutOf t R c = some c)
def zon (z : Zn) : CHT.Zon Str Str := ⟨fun n => rpOf (toldO z.top z.life z.rows n (Str.ofString "door")), (ownC z.top z.rows).map (cutA z.rows)⟩
def kpL (L : List (Str × List Zn)) : CHT.Kp Str Str := fun d t => (kpZ L d t).map zon
theorem cut_iff (t : List Str) (R : List Row) (n c : List Str) : cutOf t R n = some c ↔ c <+: n ∧ t.length < c.length ∧ c ∈ downs R ∧ ∀ u, u <+: n → t.length < u.length → u ∈ downs R → c.length ≤ u.length := by
  have tk : ∀ u : List Str, u <+: n → n.take u.length = u := fun u hu => (CHT.take_pre n u).mpr hu
  unfold cutOf
  constructor
  · intro h
    rw [Option.map_eq_some_iff] at h
    obtain ⟨k, h1, rfl⟩ := h
    rw [List.find?_range_eq_some] at h1
    obtain ⟨h1, h2, h3⟩ := h1
    simp only [down_some, Bool.and_eq_true, decide_eq_true_eq] at h1
    refine ⟨List.take_prefix _ _, h1.1, h1.2, fun u hu hl hd => ?_⟩
    by_cases q : u.length < k
    · have := h3 _ q
      rw [tk u hu] at this
      simp [down_some, hl, hd] at this
    · rw [List.length_take]; omega
  · rintro ⟨h1, h2, h3, h4⟩
    have hl := h1.length_le
    have : (List.range (n.length + 1)).find? (fun k => decide (t.length < (n.take k).length) && (downAt R (n.take k)).isSome) = some c.length := by
      rw [List.find?_range_eq_some]
      refine ⟨?_, by simp; omega, fun j hj => ?_⟩
      · rw [tk c h1]; simp [down_some, h2, h3]
      · by_cases q : t.length < (n.take j).length
        · by_cases q2 : n.take j ∈ downs R
          · have := h4 _ (List.take_prefix _ _) q q2
            rw [List.length_take] at this
            omega
          · simp [down_some, q2]
        · simp only [decide_eq_false q, Bool.false_and]; rfl
    rw [this]
    simp [tk c h1]
theorem rpOf_by (l : Int) (rows : List Row) (k : Str) (c : SCut) : rpOf (toldBy l rows k) ≠ .down c := by
  unfold toldBy
  split
  · intro h; cases h
  · split
    · intro h; cases h
    · intro h; cases h
theorem told_cut (z : Zn) (n c k : _) (h : cutOf z.top z.rows n = some c) : rpOf (toldO z.top z.life z.rows n k) = .down (cutA z.rows c) := by
  obtain ⟨r, hr⟩ := cut_down _ _ _ _ h
  unfold toldO cutA
  simp only [h, hr]
  rfl
theorem told_nocut (z : Zn) (n k : _) (h : cutOf z.top z.rows n = none) (c : SCut) : rpOf (toldO z.top z.life z.rows n k) ≠ .down c := by
  unfold toldO
  simp only [h]
  split
  · intro q; cases q
  · exact rpOf_by _ _ _ _
theorem gd_zon {P : List (List Str)} {z : Zn} (g : GdT z P) : CHT.GdZon z.top (zon z) := by
  have own : ∀ c, c ∈ ownC z.top z.rows ↔ c ∈ downs z.rows ∧ cutOf z.top z.rows c = some c := fun c => by unfold ownC; rw [List.mem_filter, decide_eq_true_eq]
  have sb : ∀ c, c ∈ ownC z.top z.rows → z.top <+: c ∧ z.top ≠ c := fun c hc => by
    obtain ⟨h1, h2⟩ := (own c).mp hc
    have hd := h1
    unfold downs at h1
    obtain ⟨r, hr, rfl⟩ := List.mem_map.mp h1
    refine ⟨g.sub r (List.mem_filter.mp hr).1, fun e => ?_⟩
    have := ((cut_iff _ _ _ _).mp h2).2.1
    rw [e] at this
    omega
  refine ⟨fun c hc => ?_, fun n c => ?_, ?_⟩
  · obtain ⟨u, hu, rfl⟩ := List.mem_map.mp hc
    rw [cutA_nm]
    exact sb u hu
  · show rpOf _ = _ ↔ _
    constructor
    · intro h
      cases q : cutOf z.top z.rows n with
      | none => exact absurd h (told_nocut z n _ q c)
      | some u =>
        rw [told_cut z n u _ q] at h
        cases h
        obtain ⟨h1, h2, h3, h4⟩ := (cut_iff _ _ _ _).mp q
        refine ⟨List.mem_map_of_mem ((own u).mpr ⟨h3, (cut_iff _ _ _ _).mpr ⟨List.prefix_refl _, h2, h3, fun v hv => h4 v (hv.trans h1)⟩⟩), by rw [cutA_nm]; exact h1⟩
    · rintro ⟨hc, hp⟩
      obtain ⟨u, hu, rfl⟩ := List.mem_map.mp hc
      rw [cutA_nm] at hp
      obtain ⟨h1, h2⟩ := (own u).mp hu
      obtain ⟨_, i2, i3, i4⟩ := (cut_iff _ _ _ _).mp h2
      refine told_cut z n u _ ((cut_iff _ _ _ _).mpr ⟨hp, i2, i3, fun v hv hl hd => ?_⟩)
      by_cases q : u.length ≤ v.length
      · exact q
      · have := i4 v (CHT.pre_cmp hv hp (by omega)) hl hd
        exact this
  · show (List.map _ (List.map _ _)).Nodup
    rw [List.map_map, show (fun c : SCut => c.nm) ∘ cutA z.rows = id from funext fun c => cutA_nm _ c, List.map_id]
    exact g.dn.sublist List.filter_sublist
theorem gd_kp {L : List (Str × List Zn)} {P : List (List Str)} (g : GdL L P) : CHT.GdK (kpL L) := fun d t z h => by
  unfold kpL at h
  rw [Option.map_eq_some_iff] at h
  obtain ⟨u, h1, rfl⟩ := h
  obtain ⟨h2, rfl⟩ := kpZ_mem h1
  exact gd_zon (g.zn d u h2)
theorem kp_in {L : List (Str × List Zn)} {P : List (List Str)} (g : GdL L P) : ∀ d t z, kpL L d t = some z → ∀ c ∈ z.cuts, c.nm ∈ P := fun d t z h c hc => by
  unfold kpL at h
  rw [Option.map_eq_some_iff] at h
  obtain ⟨u, h1, rfl⟩ := h
  obtain ⟨h2, rfl⟩ := kpZ_mem h1
  obtain ⟨v, hv, rfl⟩ := List.mem_map.mp hc
  rw [cutA_nm]
  unfold ownC at hv
  have := (List.mem_filter.mp hv).1
  unfold downs at this
  obtain ⟨r, hr, rfl⟩ := List.mem_map.mp this
  rw [List.mem_filter, decide_eq_true_eq] at hr
  exact (g.zn d u h2).nP r hr.1 hr.2
theorem rep_reply (L : List (Str × List Zn)) (root : Str) (F : List (List Str × Str)) (n : List Str) : CHT.rep (kpL L) root F n = (replyO L root F n (Str.ofString "door")).map rpOf := by
  unfold CHT.rep replyO kpL
  rw [Option.map_map, Option.map_map]
  rfl
def tagR : Option Ans → Str
  | none => Str.ofString "away"
  | some (.down _ _ _ _) => Str.ofString "down"
  | some (.els _ _) => Str.ofString "else"
  | some (.empty _) => Str.ofString "empty"
  | some (.rows _ _) => Str.ofString "rows"
  | some (.non _) => Str.ofString "none"
theorem rp_0 (o : Option Ans) : ixD (rpD o) (.int 0) = .ok (.str (tagR o)) := by
  cases o with
  | none => rfl
  | some a => cases a <;> rfl
theorem told_val (z : Zn) {P : List (List Str)} (g : GdT z P) (n : List Str) (k : Str) : (∀ t l, toldO z.top z.life z.rows n k = .els t l → t ∈ P) ∧ (∀ c h ds l, toldO z.top z.life z.rows n k = .down c h ds l → h ∈ P) ∧ ∀ vs l, toldO z.top z.life z.rows n k = .rows vs l → vs ≠ [] := by
  have srt : ∀ F : List Str, F ≠ [] → sortStr F ≠ [] := fun F hF q => by
    have := congrArg List.length q
    unfold sortStr at this
    rw [List.length_mergeSort] at this
    exact hF (List.eq_nil_of_length_eq_zero (by simpa using this))
  have by_ : ∀ F : List Row, (∀ r ∈ F, r ∈ z.rows) → (∀ t l, toldBy z.life F k = .els t l → t ∈ P) ∧ (∀ c h ds l, toldBy z.life F k ≠ .down c h ds l) ∧ ∀ vs l, toldBy z.life F k = .rows vs l → vs ≠ [] := fun F hF => by
    unfold toldBy
    cases q : F.find? fun r => decide (r.kind = Str.ofString "else") with
    | some r =>
      have hr := hF r (List.mem_of_find?_eq_some q)
      have hk := List.find?_some q
      simp only [decide_eq_true_eq] at hk
      obtain ⟨a, ha⟩ := (g.row r hr).n (.inr hk)
      refine ⟨fun t l e => ?_, fun c h ds l e => (by cases e), fun vs l e => (by cases e)⟩
      simp only [Ans.els.injEq] at e
      rw [← e.1]
      simp only [nmOf, ha]
      exact g.vP r hr a ha
    | none =>
      simp only
      split
      · exact ⟨fun t l e => (by cases e), fun c h ds l e => (by cases e), fun vs l e => (by cases e)⟩
      · rename_i ne
        refine ⟨fun t l e => (by cases e), fun c h ds l e => (by cases e), fun vs l e => ?_⟩
        simp only [Ans.rows.injEq] at e
        rw [← e.1]
        exact srt _ (by simpa using ne)
  unfold toldO
  cases hc : cutOf z.top z.rows n with
  | some c =>
    simp only
    cases hd : downAt z.rows c with
    | some r =>
      obtain ⟨d1, d2, d3⟩ := down_good _ _ _ hd
      obtain ⟨a, ha⟩ := (g.row r d1).n (.inl d3)
      refine ⟨fun t l e => (by cases e), fun c h ds l e => ?_, fun vs l e => (by cases e)⟩
      simp only [toldDown, Ans.down.injEq] at e
      rw [← e.2.1]
      simp only [nmOf, ha]
      exact g.vP r d1 a ha
    | none => exact ⟨fun t l e => (by cases e), fun c h ds l e => (by cases e), fun vs l e => (by cases e)⟩
  | none =>
    simp only
    split
    · exact ⟨fun t l e => (by cases e), fun c h ds l e => (by cases e), fun vs l e => (by cases e)⟩
    · obtain ⟨b1, b2, b3⟩ := by_ (rowsAt z.rows (lookAt z.top z.rows n)) fun r hr => (rows_sub _ _ r hr).1
      exact ⟨b1, fun c h ds l e => absurd e (b2 c h ds l), b3⟩
theorem reply_val {L : List (Str × List Zn)} {P : List (List Str)} (g : GdL L P) (root : Str) (F : List (List Str × Str)) (n : List Str) (k : Str) : (∀ t l, replyO L root F n k = some (.els t l) → t ∈ P) ∧ (∀ c h ds l, replyO L root F n k = some (.down c h ds l) → h ∈ P) ∧ ∀ vs l, replyO L root F n k = some (.rows vs l) → vs ≠ [] := by
  unfold replyO
  cases q : kpZ L (CHT.charge root F n).2 (CHT.charge root F n).1 with
  | none => exact ⟨fun t l e => (by cases e), fun c h ds l e => (by cases e), fun vs l e => (by cases e)⟩
  | some z =>
    obtain ⟨b1, b2, b3⟩ := told_val z (g.zn _ z (kpZ_mem q).1) n k
    simp only [Option.map_some, Option.some.injEq]
    exact ⟨b1, b2, b3⟩
theorem r_leads (L : List (Str × List Zn)) (P : List (List Str)) (g : GdL L P) (F : List (List Str × Str)) (root : Str) (h : CHT.Hd root F) (n0 : List Str) (hn0 : n0.length ≤ 900) :
    f_p_leads [hsP L, .list (F.map fdD), nm n0, .str (Str.ofString "door")] = .ok (.list ((CHT.leadsV (CHT.rep (kpL L) root F) n0).map .str)) := by
  have hr : ∀ n, CHT.rep (kpL L) root F n = (replyO L root F n (Str.ofString "door")).map rpOf := rep_reply L root F
  have pn : ∀ n ∈ n0 :: P, n.length ≤ 900 := fun n hn => by
    rcases List.mem_cons.mp hn with rfl | hn
    · exact hn0
    · exact g.pn n hn
  let st : List (List Str) × List Str → En := fun b => [.fz (hsP L), .ln (F.map fdD), .fz (nm b.2), .fz (.str (Str.ofString "door")), .ow (b.1.map nm), .un]
  let QQ : Out → Prop := fun o => o = Out.ret (.list ((CHT.leadsV (CHT.rep (kpL L) root F) n0).map .str)) ∨ ((∃ b, o = .nx (st b)) ∧ CHT.leadsV (CHT.rep (kpL L) root F) n0 = [])
  have hw : QQ (exS Q_p_leads w0_p_leads (st ([], n0))) := by
    refine whil_st st (fun b => b.1.Nodup ∧ (∀ x ∈ b.1, x ∈ n0 :: P) ∧ b.2 ∈ n0 :: P ∧ (∀ vs, CHT.Lead (CHT.rep (kpL L) root F) n0 vs ↔ CHT.Lead (CHT.rep (kpL L) root F) b.2 vs) ∧ ∀ x ∈ b.1, CHT.Rch (CHT.rep (kpL L) root F) x b.2) (fun b => P.length + 1 - b.1.length) QQ ([], n0) ⟨by simp, by simp, by simp, fun vs => Iff.rfl, by simp⟩ rfl (show P.length + 1 - ([] : List (List Str)).length < 1000 from by have := g.pl; simp; omega) ?_
    rintro ⟨seen, n⟩ ⟨i1, i2, i3, i4, i5⟩
    have c := encN.nin (by decide) n seen
    by_cases hin : n ∈ seen
    · left
      rw [decide_eq_true hin] at c
      refine ⟨by simp [st, c], .inr ⟨⟨_, rfl⟩, ?_⟩⟩
      exact CHT.leadsV_no fun ⟨vs, l⟩ => ((i4 vs).mp l).no_ring (i5 n hin)
    · right
      rw [decide_eq_false hin] at c
      refine ⟨by simp [st, c], ?_⟩
      have e := r_reply_of L P g F root h n (pn n i3) (Str.ofString "door") door_ne.1 door_ne.2
      have hv := reply_val g root F n (Str.ofString "door")
      have hrn := hr n
      have hl : seen.length < 1000000 := by
        have := CHT.nodup_len _ _ i1 i2
        have := g.pl
        simp at *
        omega
      have e0 := rp_0 (replyO L root F n (Str.ofString "door"))
      generalize replyO L root F n (Str.ofString "door") = o at *
      have nol : (∀ t l, o ≠ some (.els t l)) → (∀ vs l, o ≠ some (.rows vs l)) → exSs Q_p_leads v0_p_leads (st (seen, n)) = .ret (.list []) → QQ (Out.ret (.list [])) := fun a1 a2 _ => by
        left
        rw [CHT.leadsV_no]
        · rfl
        · rintro ⟨vs, l⟩
          have l := (i4 vs).mp l
          cases l with
          | rows q =>
            rw [hrn, Option.map_eq_some_iff] at q
            obtain ⟨a, rfl, q⟩ := q
            cases a <;> cases q
            exact a2 _ _ rfl
          | els q _ =>
            rw [hrn, Option.map_eq_some_iff] at q
            obtain ⟨a, rfl, q⟩ := q
            cases a <;> cases q
            exact a1 _ _ rfl
      cases o with
      | none =>
        have hb : exSs Q_p_leads v0_p_leads (st (seen, n)) = .ret (.list []) := by simp [-ixD, st, v0_p_leads, e, e0, hl, tagR]
        exact .inr (.inl ⟨_, hb, nol (fun t l q => by cases q) (fun t l q => by cases q) hb⟩)
      | some a =>
        cases a with
        | down _ _ _ _ =>
          have hb : exSs Q_p_leads v0_p_leads (st (seen, n)) = .ret (.list []) := by simp [-ixD, st, v0_p_leads, e, e0, hl, tagR]
          exact .inr (.inl ⟨_, hb, nol (fun t l q => by cases q) (fun t l q => by cases q) hb⟩)
        | empty _ =>
          have hb : exSs Q_p_leads v0_p_leads (st (seen, n)) = .ret (.list []) := by simp [-ixD, st, v0_p_leads, e, e0, hl, tagR]
          exact .inr (.inl ⟨_, hb, nol (fun t l q => by cases q) (fun t l q => by cases q) hb⟩)
        | non _ =>
          have hb : exSs Q_p_leads v0_p_leads (st (seen, n)) = .ret (.list []) := by simp [-ixD, st, v0_p_leads, e, e0, hl, tagR]
          exact .inr (.inl ⟨_, hb, nol (fun t l q => by cases q) (fun t l q => by cases q) hb⟩)
        | rows vs l =>
          have e1 : ixD (rpD (some (.rows vs l))) (.int 1) = .ok (.list (vs.map .str)) := rfl
          have hb : exSs Q_p_leads v0_p_leads (st (seen, n)) = .ret (.list (vs.map .str)) := by simp [-ixD, st, v0_p_leads, e, e0, e1, hl, tagR]
          refine .inr (.inl ⟨_, hb, .inl ?_⟩)
          rw [CHT.leadsV_of ((i4 vs).mpr (.rows hrn))]
        | els t l =>
          have e1 : ixD (rpD (some (.els t l))) (.int 1) = .ok (nm t) := rfl
          have hb : exSs Q_p_leads v0_p_leads (st (seen, n)) = .nx [.fz (hsP L), .ln (F.map fdD), .fz (nm t), .fz (.str (Str.ofString "door")), .ow ((seen ++ [n]).map nm), .fz (rpD (some (.els t l)))] := by simp [-ixD, st, v0_p_leads, e, e0, e1, hl, tagR]
          refine .inl ⟨(seen ++ [n], t), _, .inl hb, rfl, ⟨?_, ?_, ?_, ?_, ?_⟩, ?_⟩
          · rw [List.nodup_append]
            refine ⟨i1, by simp, fun a ha b hb => ?_⟩
            rw [List.mem_singleton] at hb
            subst hb
            exact fun z => hin (z ▸ ha)
          · intro x hx
            rcases List.mem_append.mp hx with hx | hx
            · exact i2 x hx
            · rw [List.mem_singleton] at hx; subst hx; exact i3
          · exact List.mem_cons_of_mem _ (hv.1 t l rfl)
          · intro vs
            rw [i4 vs]
            exact ⟨fun q => q.back hrn, fun q => .els hrn q⟩
          · intro x hx
            rcases List.mem_append.mp hx with hx | hx
            · exact (i5 x hx).snoc hrn
            · rw [List.mem_singleton] at hx; subst hx; exact .one hrn
          · have h1 : (seen ++ [n]).length ≤ (n0 :: P).length := CHT.nodup_len _ _ (by
              rw [List.nodup_append]
              refine ⟨i1, by simp, fun a ha b hb => ?_⟩
              rw [List.mem_singleton] at hb
              subst hb
              exact fun z => hin (z ▸ ha)) fun x hx => by
                rcases List.mem_append.mp hx with hx | hx
                · exact i2 x hx
                · rw [List.mem_singleton] at hx; subst hx; exact i3
            simp at h1 ⊢
            omega
  rcases hw with hw | ⟨⟨b, hw⟩, e⟩
  · have : exS Q_p_leads w0_p_leads [.fz (hsP L), .ln (F.map fdD), .fz (nm n0), .fz (.str (Str.ofString "door")), .ow [], .un] = _ := hw
    simp [f_p_leads, b_p_leads, this]
  · have : exS Q_p_leads w0_p_leads [.fz (hsP L), .ln (F.map fdD), .fz (nm n0), .fz (.str (Str.ofString "door")), .ow [], .un] = _ := hw
    simp [f_p_leads, b_p_leads, this, e, st]
theorem opt_eq (o : Option (List Str)) (c : List Str) : cmpD .eq (optD nm o) (nm c) = .ok (decide (o = some c)) := by
  cases o with
  | none =>
    have h : shOk (nm c) = true := encN.sh (by decide) c
    show cmpD .eq .none (nm c) = .ok false
    simp only [cmpD, h, show shOk .none = true from rfl, Bool.and_self, if_true]
    rfl
  | some a =>
    have := cmp_nm a c
    simpa [optD] using this
theorem isN_Z (o : Option Zn) : cmpD .isN (optZ o) .none = .ok (!o.isSome) := by cases o <;> rfl
theorem told_own (z : Zn) (c : List Str) (h : cutOf z.top z.rows c = some c) (k : Str) : ansD (toldO z.top z.life z.rows c k) = cutD (cutA z.rows c) := by
  obtain ⟨r, hr⟩ := cut_down _ _ _ _ h
  unfold toldO cutA
  simp only [h, hr]
  rfl
theorem r_cuts_at (L : List (Str × List Zn)) (P : List (List Str)) (g : GdL L P) (t : List Str) (d : Str) : f_p_cuts_at [hsP L, nm t, .str d] = .ok (.list ((CHT.cutsK (kpL L) (t, d)).map cutD)) := by
  have hk := r_kept L d t
  unfold CHT.cutsK kpL
  have e0 : (atP L d).find? (fun z => decide (z.top = t)) = kpZ L d t := rfl
  rw [e0] at hk
  cases q : kpZ L d t with
  | none =>
    rw [q] at hk
    have en : cmpD .isN .none .none = .ok true := rfl
    simp [f_p_cuts_at, b_p_cuts_at, hk, optZ, en]
  | some z =>
    rw [q] at hk
    have en : cmpD .isN (zoD z) .none = .ok false := rfl
    obtain ⟨zm, zt⟩ := kpZ_mem q
    have gz := g.zn d z zm
    have l0 := gz.len
    have hl : (downs z.rows).length ≤ 1000000 := by
      unfold downs
      rw [List.length_map]
      have := List.length_filter_le (fun r : Row => decide (r.kind = Str.ofString "down")) z.rows
      omega
    have h0 : ev Q_p_cuts_at e0_p_cuts_at [.fz (hsP L), .fz (nm t), .fz (.str d), .fz (zoD z), .un, .un, .un] = .ok (.list ((downs z.rows).map nm)) := by
      have ed : (downs z.rows).map nm = (z.rows.filter fun r => decide (r.kind = Str.ofString "down")).map fun r => nm r.nm := by
        unfold downs
        rw [List.map_map]
        rfl
      rw [ed]
      refine lc_filter rowD (fun r => nm r.nm) (fun r => decide (r.kind = Str.ofString "down")) z.rows ?_ (by omega) fun r _ => ⟨_, rfl, ?_, fun _ => ?_⟩
      · have : ixD (zoD z) (.int 2) = .ok (.list (z.rows.map rowD)) := zo_2 z
        simp [-ixD, this]
      · show tR _ = _
        simp [-ixD, row_2]
      · simp [-ixD, row_0]
    have h1 : ev Q_p_cuts_at e1_p_cuts_at [.fz (hsP L), .fz (nm t), .fz (.str d), .fz (zoD z), .fz (.list ((downs z.rows).map nm)), .un, .un] = .ok (.list (((downs z.rows).filter fun c => decide (cutOf z.top z.rows c = some c)).map fun c => cutD (cutA z.rows c))) := by
      have cl : ∀ c ∈ downs z.rows, c.length ≤ 900 ∧ c.take z.top.length = z.top := fun c hc => by
        unfold downs at hc
        obtain ⟨r, hr, rfl⟩ := List.mem_map.mp hc
        have hr := (List.mem_filter.mp hr).1
        exact ⟨gz.nl r hr, (CHT.take_pre _ _).mpr (gz.sub r hr)⟩
      refine lc_filter nm (fun c => cutD (cutA z.rows c)) (fun c => decide (cutOf z.top z.rows c = some c)) (downs z.rows) (by simp) hl fun c hc => ⟨_, rfl, ?_, fun h => ?_⟩
      · have a : f_p_cut_of [zoD z, nm c] = .ok (optD nm (cutOf z.top z.rows c)) := r_cut_of z.top c z.life z.rows (by omega) (by have := (cl c hc).1; omega)
        show tR _ = _
        simp [a, opt_eq]
      · have b : f_p_told [zoD z, nm c, .str (Str.ofString "door")] = .ok (ansD (toldO z.top z.life z.rows c (Str.ofString "door"))) := r_told z.top c z.life z.rows _ gz.len gz.row (cl c hc).2 (cl c hc).1 door_ne.1 door_ne.2
        rw [told_own z c (of_decide_eq_true h)] at b
        simp [b]
    have e2 : (zon z).cuts.map cutD = ((downs z.rows).filter fun c => decide (cutOf z.top z.rows c = some c)).map fun c => cutD (cutA z.rows c) := by
      show ((ownC z.top z.rows).map (cutA z.rows)).map cutD = _
      rw [List.map_map]
      rfl
    simp only [Option.map_some, e2]
    simp [-List.map_map, f_p_cuts_at, b_p_cuts_at, hk, en, optZ, h0, h1]
theorem cut_0 (c : SCut) : ixD (cutD c) (.int 0) = .ok (.str (Str.ofString "down")) := rfl
theorem cut_1 (c : SCut) : ixD (cutD c) (.int 1) = .ok (nm c.nm) := rfl
theorem cut_2 (c : SCut) : ixD (cutD c) (.int 2) = .ok (nm c.house) := rfl
theorem cut_3 (c : SCut) : ixD (cutD c) (.int 3) = .ok (.list (c.doors.map .str)) := rfl
theorem ne_nilD (vs : List Str) : cmpD .ne (.list (vs.map .str)) (.list []) = .ok (!decide (vs = [])) := encS.lst.ne (by decide) vs []
theorem eq_nilD (vs : List Str) : cmpD .eq (.list (vs.map .str)) (.list []) = .ok (decide (vs = [])) := encS.lst.eq (by decide) vs []
theorem r_found_doors (L : List (Str × List Zn)) (P : List (List Str)) (g : GdL L P) (F : List (List Str × Str)) (root : Str) (h : CHT.Hd root F) (c : SCut) (hc : c.house.length ≤ 900) :
    f_p_found_doors [hsP L, .list (F.map fdD), cutD c] = .ok (.list ((CHT.doorsV (kpL L) root F c).map .str)) := by
  have e := ne_nilD c.doors
  have l := r_leads L P g F root h c.house hc
  unfold CHT.doorsV
  by_cases q : c.doors = []
  · rw [decide_eq_true q] at e
    rw [if_neg (fun w => w q)]
    simp [-ixD, f_p_found_doors, b_p_found_doors, cut_3, e, cut_2, l]
  · rw [decide_eq_false q] at e
    rw [if_pos q]
    simp [-ixD, f_p_found_doors, b_p_found_doors, cut_3, e]
theorem house_in {L : List (Str × List Zn)} {P : List (List Str)} (g : GdL L P) (e : List Str × Str) (c : SCut) (hc : c ∈ CHT.cutsK (kpL L) e) : c.house ∈ P ∧ c.nm ∈ P := by
  obtain ⟨z, k, hz⟩ := CHT.cutsK_mem.mp hc
  refine ⟨?_, kp_in g _ _ _ k c hz⟩
  unfold kpL at k
  rw [Option.map_eq_some_iff] at k
  obtain ⟨u, h1, rfl⟩ := k
  obtain ⟨h2, _⟩ := kpZ_mem h1
  have hd := ((gd_zon (g.zn _ u h2)).down c.nm c).mpr ⟨hz, List.prefix_refl _⟩
  have hv := (told_val u (g.zn _ u h2) c.nm (Str.ofString "door")).2.1
  have hd' : rpOf (toldO u.top u.life u.rows c.nm (Str.ofString "door")) = .down c := hd
  cases q : toldO u.top u.life u.rows c.nm (Str.ofString "door") with
  | down a b ds l =>
    rw [q] at hd'
    cases hd'
    exact hv _ _ _ _ q
  | els _ _ => rw [q] at hd'; cases hd'
  | empty _ => rw [q] at hd'; cases hd'
  | rows _ _ => rw [q] at hd'; cases hd'
  | non _ => rw [q] at hd'; cases hd'
theorem wt_len {L : List (Str × List Zn)} {P : List (List Str)} (g : GdL L P) {F : List (List Str × Str)} {Q : List SCut} (w : CHT.Wt (kpL L) F Q) : Q.length ≤ P.length := by
  have := CHT.nodup_len (Q.map (·.nm)) P w.nd fun a ha => by
    obtain ⟨c, hc, rfl⟩ := List.mem_map.mp ha
    obtain ⟨x, _, hx⟩ := w.par c hc
    exact (house_in g x c hx).2
  simpa using this
theorem r_charges (L : List (Str × List Zn)) (P : List (List Str)) (g : GdL L P) (root : Str) : ∃ F, CHT.Chg (kpL L) root F ∧ f_p_charges [hsP L, .str root] = .ok (.list (F.map fdD)) := by
  have gk := gd_kp g
  have hpl := g.pl
  let st : List (List Str × Str) × List SCut × Bool → En := fun b => [.fz (hsP L), .fz (.str root), .ow (b.1.map fdD), .fz (.list (b.2.1.map cutD)), .fz (.bool b.2.2), .un, .un, .un]
  have inner : ∀ (F : List (List Str × Str)) (W : List SCut), CHT.Inv (kpL L) root F → CHT.Wt (kpL L) F W →
      exS Q_p_charges w0_p_charges [.fz (hsP L), .fz (.str root), .ow (F.map fdD), .fz (.list (W.map cutD)), .fz (.bool false), .ow [], .un, .un]
      = .nx [.fz (hsP L), .fz (.str root), .ow ((W.foldl (CHT.stepC (kpL L) root) (F, [], false)).1.map fdD), .fz (.list (W.map cutD)), .fz (.bool (W.foldl (CHT.stepC (kpL L) root) (F, [], false)).2.2), .ow ((W.foldl (CHT.stepC (kpL L) root) (F, [], false)).2.1.map cutD), .un, .un] := by
    intro F W hF hW
    refine (for_fold cutD W (fun b : List (List Str × Str) × List SCut × Bool => [.fz (hsP L), .fz (.str root), .ow (b.1.map fdD), .fz (.list (W.map cutD)), .fz (.bool b.2.2), .ow (b.2.1.map cutD), .un, .un]) (CHT.stepC (kpL L) root)
      (fun r b => CHT.Inv (kpL L) root b.1 ∧ CHT.Wt (kpL L) b.1 (b.2.1 ++ r)) (F, [], false) (by simp) ⟨hF, by simpa using hW⟩ rfl fun b c r hc hb => ?_).1
    obtain ⟨b1, b2, b3⟩ := b
    obtain ⟨i, w⟩ := hb
    simp only at i w
    obtain ⟨x, hx, hxc⟩ := w.par c (by simp)
    have hp := house_in g x c hxc
    have fd := r_found_doors L P g b1 root i.toHd c (g.pn _ hp.1)
    have lF := CHT.inv_len gk i P (kp_in g)
    have lQ := wt_len g w
    simp only [List.length_append, List.length_cons] at lQ
    have l1 : b1.length < 1000000 := by omega
    have l2 : b2.length < 1000000 := by omega
    cases q : CHT.doorsV (kpL L) root b1 c with
    | nil =>
      rw [q] at fd
      have e : CHT.stepC (kpL L) root (b1, b2, b3) c = (b1, b2 ++ [c], b3) := by unfold CHT.stepC; simp only [q]
      rw [e]
      refine ⟨⟨i, by simpa using w⟩, _, [.fz (hsP L), .fz (.str root), .ow (b1.map fdD), .fz (.list (W.map cutD)), .fz (.bool b3), .ow ((b2 ++ [c]).map cutD), .fz (cutD c), .fz (.list [])], rfl, .inl ?_, rfl⟩
      have en0 : cmpD .eq (.list []) (.list []) = .ok true := eq_nilD []
      simp [-ixD, v0_p_charges, fd, en0, l2]
    | cons d ds =>
      rw [q] at fd
      have e : CHT.stepC (kpL L) root (b1, b2, b3) c = (b1 ++ [(c.nm, d)], b2 ++ CHT.cutsK (kpL L) (c.nm, d), true) := by unfold CHT.stepC; simp only [q]
      rw [e]
      obtain ⟨i', w'⟩ := CHT.step_inv gk i w q
      have lQ' := wt_len g w'
      simp only [List.length_append] at lQ'
      have ca := r_cuts_at L P g c.nm d
      have l3 : b2.length + (CHT.cutsK (kpL L) (c.nm, d)).length < 1000000 := by omega
      have e0 : ixD (.list (((d :: ds : List Str)).map PyData.str)) (.int 0) = .ok (.str d) := by simp [L2.atI, L2.ixN]
      have en := eq_nilD (d :: ds)
      rw [decide_eq_false (by simp)] at en
      refine ⟨⟨i', w'⟩, _, [.fz (hsP L), .fz (.str root), .ow ((b1 ++ [(c.nm, d)]).map fdD), .fz (.list (W.map cutD)), .fz (.bool true), .ow ((b2 ++ CHT.cutsK (kpL L) (c.nm, d)).map cutD), .fz (cutD c), .fz (.list ((d :: ds).map .str))], rfl, .inl ?_, rfl⟩
      generalize d :: ds = D at *
      simp [-ixD, v0_p_charges, fd, en, l1, l3, cut_1, e0, ca, fdD]
  let QQ : Out → Prop := fun o => ∃ b, o = .nx (st b) ∧ CHT.Chg (kpL L) root b.1
  obtain ⟨s1, s2⟩ := CHT.start_inv gk root
  have lW := wt_len g s2
  have hw : QQ (exS Q_p_charges w1_p_charges (st ([([], root)], CHT.cutsK (kpL L) ([], root), true))) := by
    refine whil_st st (fun b => CHT.Inv (kpL L) root b.1 ∧ CHT.Wt (kpL L) b.1 b.2.1 ∧ (b.2.2 = false → ∀ c ∈ b.2.1, CHT.doorsV (kpL L) root b.1 c = [])) (fun b => 2 * (P.length + 1 - b.1.length) + cond b.2.2 1 0) QQ ([([], root)], CHT.cutsK (kpL L) ([], root), true) ⟨s1, s2, fun h => by cases h⟩ rfl (show 2 * (P.length + 1 - 1) + 1 < 1000 from by omega) ?_
    rintro ⟨F, W, m⟩ ⟨i, w, hm⟩
    simp only at i w hm
    cases m with
    | false =>
      left
      refine ⟨by simp [st], _, rfl, { toInv := i, all := fun e he c hc => ?_ }⟩
      rcases w.pend e he c hc with q | q
      · exact .inl q
      · exact .inr (hm rfl c q)
    | true =>
      right
      refine ⟨by simp [st], .inl ⟨W.foldl (CHT.stepC (kpL L) root) (F, [], false), [.fz (hsP L), .fz (.str root), .ow ((W.foldl (CHT.stepC (kpL L) root) (F, [], false)).1.map fdD), .fz (.list ((W.foldl (CHT.stepC (kpL L) root) (F, [], false)).2.1.map cutD)), .fz (.bool (W.foldl (CHT.stepC (kpL L) root) (F, [], false)).2.2), .fz (.list ((W.foldl (CHT.stepC (kpL L) root) (F, [], false)).2.1.map cutD)), .un, .un], .inl ?_, rfl, ?_, ?_⟩⟩
      · have := inner F W i w
        simp [st, v1_p_charges, this]
      · obtain ⟨j1, j2, j3, j4, j5, j6⟩ := CHT.round_inv gk W (F, [], false) i (by simpa using w) (fun _ c hc => by simp at hc)
        exact ⟨j1, j2, fun h c hc => by
          obtain ⟨e1, e2⟩ := j5 h
          rw [e1]
          exact e2 c hc⟩
      · obtain ⟨j1, j2, j3, j4, j5, j6⟩ := CHT.round_inv gk W (F, [], false) i (by simpa using w) (fun _ c hc => by simp at hc)
        have l1 := CHT.inv_len gk j1 P (kp_in g)
        have l2 := CHT.inv_len gk i P (kp_in g)
        show 2 * (P.length + 1 - (W.foldl (CHT.stepC (kpL L) root) (F, [], false)).1.length) + cond (W.foldl (CHT.stepC (kpL L) root) (F, [], false)).2.2 1 0 < 2 * (P.length + 1 - F.length) + 1
        cases q : (W.foldl (CHT.stepC (kpL L) root) (F, [], false)).2.2 with
        | false => simp only [cond_false]; simp only at j3; omega
        | true =>
          have := j6 q rfl
          simp only at this
          simp only [cond_true]
          omega
  obtain ⟨⟨F, W, m⟩, hb, hc⟩ := hw
  refine ⟨F, hc, ?_⟩
  have ca := r_cuts_at L P g [] root
  have e0 : exS Q_p_charges w1_p_charges [.fz (hsP L), .fz (.str root), .ow [fdD ([], root)], .fz (.list ((CHT.cutsK (kpL L) ([], root)).map cutD)), .fz (.bool true), .un, .un, .un] = _ := hb
  have e1 : (.tuple [.tuple [], .str root] : Dat) = fdD ([], root) := rfl
  have e2 : (.tuple [] : Dat) = nm [] := rfl
  simp only [f_p_charges, b_p_charges]
  simp [e1]
  simp only [e2]
  simp [ca, e0, st]
structure Wai where
  why : Str
  name : List Str
  kind : Str
  deriving DecidableEq
def waiD (w : Wai) : Dat := .tuple [.str w.why, nm w.name, .str w.kind]
theorem encW : Enc waiD 2 := ⟨fun a b => by
    have h1 : PyData.eqv (nm a.name) (nm b.name) = decide (a.name = b.name) := encN.eqv a.name b.name
    have e : PyData.eqv (waiD a) (waiD b) = (PyData.eqv (.str a.why) (.str b.why) && (PyData.eqv (nm a.name) (nm b.name) && (PyData.eqv (.str a.kind) (.str b.kind) && true))) := rfl
    rw [e, h1, eqv_str, eqv_str]
    obtain ⟨a1, a2, a3⟩ := a
    obtain ⟨b1, b2, b3⟩ := b
    simp only [Wai.mk.injEq, Bool.and_true]
    rw [Bool.eq_iff_iff]
    simp, fun a => by
    have h1 : ndc (nm a.name) = true := encN.ndc a.name
    have e : ndc (waiD a) = (true && (ndc (nm a.name) && (true && true))) := rfl
    rw [e, h1]
    rfl, fun a => by
    refine depth_tup _ fun d hd => ?_
    simp only [List.mem_cons, List.not_mem_nil, or_false] at hd
    rcases hd with rfl | rfl | rfl
    · simp [PyData.depth]
    · exact encN.dep a.name
    · simp [PyData.depth]⟩
theorem wai_0 (w : Wai) : ixD (waiD w) (.int 0) = .ok (.str w.why) := rfl
theorem wai_1 (w : Wai) : ixD (waiD w) (.int 1) = .ok (nm w.name) := rfl
theorem wai_2 (w : Wai) : ixD (waiD w) (.int 2) = .ok (.str w.kind) := rfl
def sameQ (s o : Wai) : Bool := decide (o.name = s.name) && decide (o.kind = s.kind)
theorem r_waiting (W : List Wai) (s : Wai) (hl : W.length ≤ 1000000) : f_p_waiting [.list (W.map waiD), waiD s] = .ok (.bool (W.any (sameQ s))) := by
  have he : ev Q_p_waiting e0_p_waiting [.ln (W.map waiD), .fz (waiD s), .un] = .ok (.list (W.map fun o => PyData.bool (sameQ s o))) := by
    refine lc_map waiD (fun o => PyData.bool (sameQ s o)) W (by simp) hl fun o _ => ⟨_, rfl, by simp, ?_⟩
    have c1 := cmp_nm o.name s.name
    unfold sameQ
    by_cases h : o.name = s.name
    · rw [decide_eq_true h] at c1 ⊢
      simp [-ixD, wai_1, wai_2, c1]
    · rw [decide_eq_false h] at c1 ⊢
      simp [-ixD, wai_1, c1]
  have b := bi_any (sameQ s) W
  simp [-biD, f_p_waiting, b_p_waiting, he, b]
def isDoor (o : Wai) : Bool := decide (o.why = Str.ofString "door")
theorem r_by_door (W : List Wai) (hl : W.length ≤ 1000000) : f_p_by_door [.list (W.map waiD)] = .ok (.bool (W.any isDoor)) := by
  have he : ev Q_p_by_door e0_p_by_door [.fz (.list (W.map waiD)), .un] = .ok (.list (W.map fun o => PyData.bool (isDoor o))) := by
    refine lc_map waiD (fun o => PyData.bool (isDoor o)) W (by simp) hl fun o _ => ⟨_, rfl, by simp, ?_⟩
    simp [-ixD, wai_0, isDoor]
  have b := bi_any isDoor W
  simp [-biD, f_p_by_door, b_p_by_door, he, b]
abbrev Outc := Str × List Str × List Wai
def outD (o : Outc) : Dat := .tuple [.str o.1, .list (o.2.1.map .str), .list (o.2.2.map waiD)]
def endO (r : Option Ans) (W : List Wai) : Outc := if tagR r = Str.ofString "away" ∨ W.any isDoor = true then (Str.ofString "lost", [], W) else match r with
  | some (.rows vs _) => (Str.ofString "rows", vs, W)
  | r => (tagR r, [], W)
theorem r_ended (r : Option Ans) (W : List Wai) (hl : W.length ≤ 1000000) : f_p_ended [rpD r, .list (W.map waiD)] = .ok (outD (endO r W)) := by
  have b := r_by_door W hl
  have e0 := rp_0 r
  unfold endO
  by_cases h : W.any isDoor = true
  · rw [h] at b
    rw [if_pos (.inr h)]
    by_cases h2 : tagR r = Str.ofString "away"
    · simp [-ixD, f_p_ended, b_p_ended, e0, h2, outD]
    · simp [-ixD, f_p_ended, b_p_ended, e0, h2, b, outD]
  · rw [Bool.not_eq_true] at h
    rw [h] at b
    cases r with
    | none =>
      simp [-ixD, f_p_ended, b_p_ended, e0, tagR, outD]
    | some a =>
      cases a with
      | rows vs l =>
        have e1 : ixD (rpD (some (.rows vs l))) (.int 1) = .ok (.list (vs.map .str)) := rfl
        simp [-ixD, f_p_ended, b_p_ended, e0, e1, tagR, b, h, outD]
      | down _ _ _ _ => simp [-ixD, f_p_ended, b_p_ended, e0, tagR, b, h, outD]
      | els _ _ => simp [-ixD, f_p_ended, b_p_ended, e0, tagR, b, h, outD]
      | empty _ => simp [-ixD, f_p_ended, b_p_ended, e0, tagR, b, h, outD]
      | non _ => simp [-ixD, f_p_ended, b_p_ended, e0, tagR, b, h, outD]
def stepW (r : Option Ans) (k : Str) : Option Wai := match r with
  | some (.els t _) => some ⟨Str.ofString "else", t, k⟩
  | some (.down _ h _ _) => some ⟨Str.ofString "door", h, Str.ofString "door"⟩
  | _ => none
/-- the truth, by what the house in charge replies -/
inductive TruthR (rp : List Str → Str → Option Ans) : List Wai → Wai → Outc → Prop
  | stop {ws : List Wai} {w : Wai} : stepW (rp w.name w.kind) w.kind = none → TruthR rp ws w (endO (rp w.name w.kind) (ws ++ [w]))
  | ring {ws : List Wai} {w s : Wai} : stepW (rp w.name w.kind) w.kind = some s → (ws ++ [w]).any (sameQ s) = true → TruthR rp ws w (Str.ofString "ring", [], ws ++ [w] ++ [s])
  | go {ws : List Wai} {w s : Wai} {o : Outc} : stepW (rp w.name w.kind) w.kind = some s → (ws ++ [w]).any (sameQ s) = false → TruthR rp (ws ++ [w]) s o → TruthR rp ws w o
theorem TruthR.det {rp : List Str → Str → Option Ans} {ws : List Wai} {w : Wai} {o o' : Outc} (a : TruthR rp ws w o) (b : TruthR rp ws w o') : o = o' := by
  induction a generalizing o' with
  | stop e =>
    cases b with
    | stop _ => rfl
    | ring e' _ => rw [e] at e'; cases e'
    | go e' _ _ => rw [e] at e'; cases e'
  | ring e h =>
    cases b with
    | stop e' => rw [e] at e'; cases e'
    | ring e' _ => rw [e] at e'; cases e'; rfl
    | go e' h' _ => rw [e] at e'; cases e'; rw [h] at h'; cases h'
  | go e h _ ih =>
    cases b with
    | stop e' => rw [e] at e'; cases e'
    | ring e' h' => rw [e] at e'; cases e'; rw [h] at h'; cases h'
    | go e' _ b => rw [e] at e'; cases e'; exact ih b
theorem last_D (ws : List Wai) (w : Wai) : ixD (.list ((ws ++ [w]).map waiD)) (.int (-1)) = .ok (waiD w) := by
  have h : L2.atI ((ws ++ [w]).map waiD) (-1) = some (waiD w) := by
    unfold L2.atI L2.ixN
    have e1 : ((-1 : Int) + ((ws.length : Int) + 1)).toNat = ws.length := by omega
    have e2 : (1 : Int) ≤ (ws.length : Int) + 1 := by omega
    simp [e1, e2]
  simp only [ixD, h]
theorem truth_loop (L : List (Str × List Zn)) (P : List (List Str)) (g : GdL L P) (root : Str) (F : List (List Str × Str)) (hF : CHT.Hd root F) (n0 : List Str) (hn0 : n0.length ≤ 900) (k0 : Str) (k1 : k0 ≠ Str.ofString "down") (k2 : k0 ≠ Str.ofString "else") :
    ∃ o, TruthR (replyO L root F) [] ⟨Str.ofString "asked", n0, k0⟩ o ∧ exS Q_p_truth w0_p_truth [.fz (hsP L), .fz (.str root), .fz (nm n0), .fz (.str k0), .fz (.list (F.map fdD)), .ow [waiD ⟨Str.ofString "asked", n0, k0⟩], .un, .un, .un, .un] = .ret (outD o) := by
  let w0 : Wai := ⟨Str.ofString "asked", n0, k0⟩
  let st : List Wai × Wai → En := fun b => [.fz (hsP L), .fz (.str root), .fz (nm n0), .fz (.str k0), .fz (.list (F.map fdD)), .ow ((b.1 ++ [b.2]).map waiD), .un, .un, .un, .un]
  let QQ : Out → Prop := fun z => ∃ o, TruthR (replyO L root F) [] w0 o ∧ z = .ret (outD o)
  let PP : List (List Str × Str) := (n0 :: P).flatMap fun n => [(n, k0), (n, Str.ofString "door")]
  have hPP : ∀ n k, (n, k) ∈ PP ↔ n ∈ n0 :: P ∧ (k = k0 ∨ k = Str.ofString "door") := fun n k => by
    show _ ∈ List.flatMap _ _ ↔ _
    rw [List.mem_flatMap]
    constructor
    · rintro ⟨a, ha, h⟩
      simp only [List.mem_cons, Prod.mk.injEq, List.not_mem_nil, or_false] at h
      rcases h with ⟨rfl, rfl⟩ | ⟨rfl, rfl⟩
      · exact ⟨ha, .inl rfl⟩
      · exact ⟨ha, .inr rfl⟩
    · rintro ⟨h, rfl | rfl⟩
      · exact ⟨n, h, by simp⟩
      · exact ⟨n, h, by simp⟩
  have lPP : PP.length = 2 * (P.length + 1) := by
    have : ∀ l : List (List Str), (l.flatMap fun n => [(n, k0), (n, Str.ofString "door")]).length = 2 * l.length := fun l => by
      induction l with
      | nil => rfl
      | cons a l ih => simp only [List.flatMap_cons, List.length_append, ih, List.length_cons, List.length_nil]; omega
    exact this (n0 :: P)
  have hpl := g.pl
  have pn : ∀ n ∈ n0 :: P, n.length ≤ 900 := fun n hn => by
    rcases List.mem_cons.mp hn with rfl | hn
    · exact hn0
    · exact g.pn n hn
  have nds : ∀ (W : List Wai) (s : Wai), (W.map fun w => (w.name, w.kind)).Nodup → W.any (sameQ s) = false → ((W ++ [s]).map fun w => (w.name, w.kind)).Nodup := fun W s h1 h2 => by
    rw [List.map_append, List.nodup_append]
    refine ⟨h1, by simp, fun a ha b hb => ?_⟩
    obtain ⟨u, hu, rfl⟩ := List.mem_map.mp ha
    simp only [List.map_cons, List.map_nil, List.mem_singleton] at hb
    subst hb
    intro e
    simp only [Prod.mk.injEq] at e
    have : W.any (sameQ s) = true := List.any_eq_true.mpr ⟨u, hu, by simp [sameQ, e.1, e.2]⟩
    rw [h2] at this
    cases this
  have hw : QQ (exS Q_p_truth w0_p_truth (st ([], w0))) := by
    refine whil_st st (fun b => ((b.1 ++ [b.2]).map fun w => (w.name, w.kind)).Nodup ∧ (∀ w ∈ b.1 ++ [b.2], (w.name, w.kind) ∈ PP) ∧ ∀ o, TruthR (replyO L root F) b.1 b.2 o → TruthR (replyO L root F) [] w0 o)
      (fun b => PP.length + 1 - b.1.length) QQ ([], w0) ⟨by simp, fun w hw => by simp at hw; subst hw; exact (hPP _ _).mpr ⟨by simp [w0], .inl rfl⟩, fun o h => h⟩ rfl (show PP.length + 1 - 0 < 1000 from by omega) ?_
    rintro ⟨ws, w⟩ ⟨i1, i2, i3⟩
    simp only at i1 i2 i3
    right
    refine ⟨by simp [st], ?_⟩
    have hwp := (hPP _ _).mp (i2 w (by simp))
    have hk : w.kind ≠ Str.ofString "down" ∧ w.kind ≠ Str.ofString "else" := by
      rcases hwp.2 with h | h
      · rw [h]; exact ⟨k1, k2⟩
      · rw [h]; exact ⟨door_ne.1, door_ne.2⟩
    have hlen : (ws ++ [w]).length ≤ PP.length := by
      have := CHT.nodup_len _ PP i1 fun a ha => by
        obtain ⟨u, hu, rfl⟩ := List.mem_map.mp ha
        exact i2 u hu
      simpa using this
    have hl6 : (ws ++ [w]).length < 1000000 := by omega
    have e := r_reply_of L P g F root hF w.name (pn _ hwp.1) w.kind hk.1 hk.2
    have hv := reply_val g root F w.name w.kind
    have lastw := last_D ws w
    have e0 := rp_0 (replyO L root F w.name w.kind)
    have stop := @TruthR.stop (replyO L root F) ws w
    have ring := @TruthR.ring (replyO L root F) ws w
    have go := @TruthR.go (replyO L root F) ws w
    have en := r_ended (replyO L root F w.name w.kind) (ws ++ [w]) (by omega)
    generalize hW : ws ++ [w] = W at *
    have hwa : ∀ s, f_p_waiting [.list (W.map waiD), waiD s] = .ok (.bool (W.any (sameQ s))) := fun s => r_waiting W s (by omega)
    generalize replyO L root F w.name w.kind = r at *
    have fin : stepW r w.kind = none → exSs Q_p_truth v0_p_truth (st (ws, w)) = .ret (outD (endO r W)) → ∃ d, exSs Q_p_truth v0_p_truth (st (ws, w)) = .ret d ∧ QQ (.ret d) := fun h1 h2 => ⟨_, h2, _, i3 _ (stop h1), rfl⟩
    have onn : ∀ s : Wai, stepW r w.kind = some s → (s.name, s.kind) ∈ PP → (∀ b, W.any (sameQ s) = b → exSs Q_p_truth v0_p_truth (st (ws, w)) = cond b (.ret (outD (Str.ofString "ring", [], W ++ [s]))) (.nx [.fz (hsP L), .fz (.str root), .fz (nm n0), .fz (.str k0), .fz (.list (F.map fdD)), .ow ((W ++ [s]).map waiD), .fz (waiD w), .fz (rpD r), .fz (.bool false), .fz (waiD s)])) →
        (∃ b' ρ', (exSs Q_p_truth v0_p_truth (st (ws, w)) = .nx ρ' ∨ exSs Q_p_truth v0_p_truth (st (ws, w)) = .ct ρ') ∧ unS [6, 7, 8, 9] ρ' = st b' ∧ (((b'.1 ++ [b'.2]).map fun w => (w.name, w.kind)).Nodup ∧ (∀ w ∈ b'.1 ++ [b'.2], (w.name, w.kind) ∈ PP) ∧ ∀ o, TruthR (replyO L root F) b'.1 b'.2 o → TruthR (replyO L root F) [] w0 o) ∧ PP.length + 1 - b'.1.length < PP.length + 1 - ws.length) ∨ (∃ d, exSs Q_p_truth v0_p_truth (st (ws, w)) = .ret d ∧ QQ (.ret d)) := fun s h1 h2 h3 => by
      cases q : W.any (sameQ s) with
      | true => exact .inr ⟨_, h3 _ q, _, i3 _ (ring h1 q), rfl⟩
      | false =>
        refine .inl ⟨(W, s), _, .inl (h3 _ q), rfl, ⟨nds W s i1 q, fun u hu => ?_, fun o ho => i3 o (go h1 q ho)⟩, ?_⟩
        · rcases List.mem_append.mp hu with hu | hu
          · exact i2 u hu
          · rw [List.mem_singleton] at hu; subst hu; exact h2
        · have : W.length = ws.length + 1 := by rw [← hW]; simp
          simp only
          omega
    have est : st (ws, w) = [.fz (hsP L), .fz (.str root), .fz (nm n0), .fz (.str k0), .fz (.list (F.map fdD)), .ow (W.map waiD), .un, .un, .un, .un] := by simp only [st, hW]
    rw [est] at fin onn ⊢
    cases r with
    | none =>
      obtain ⟨d, h1, h2⟩ := fin rfl (by simp [-ixD, v0_p_truth, lastw, wai_1, wai_2, e, e0, tagR, en])
      exact .inr (.inl ⟨d, h1, h2⟩)
    | some a =>
      cases a with
      | empty l =>
        obtain ⟨d, h1, h2⟩ := fin rfl (by simp [-ixD, v0_p_truth, lastw, wai_1, wai_2, e, e0, tagR, en])
        exact .inr (.inl ⟨d, h1, h2⟩)
      | non l =>
        obtain ⟨d, h1, h2⟩ := fin rfl (by simp [-ixD, v0_p_truth, lastw, wai_1, wai_2, e, e0, tagR, en])
        exact .inr (.inl ⟨d, h1, h2⟩)
      | rows vs l =>
        obtain ⟨d, h1, h2⟩ := fin rfl (by simp [-ixD, v0_p_truth, lastw, wai_1, wai_2, e, e0, tagR, en])
        exact .inr (.inl ⟨d, h1, h2⟩)
      | els t l =>
        have e1 : ixD (rpD (some (.els t l))) (.int 1) = .ok (nm t) := rfl
        have ew : (.tuple [.str (Str.ofString "else"), nm t, .str w.kind] : Dat) = waiD ⟨Str.ofString "else", t, w.kind⟩ := rfl
        rcases onn ⟨Str.ofString "else", t, w.kind⟩ rfl ((hPP _ _).mpr ⟨List.mem_cons_of_mem _ (hv.1 t l rfl), hwp.2⟩) (fun b hb => by
          have a1 := hwa ⟨Str.ofString "else", t, w.kind⟩
          rw [hb] at a1
          cases b with
          | true => simp [-ixD, v0_p_truth, lastw, wai_1, wai_2, e, e0, tagR, e1, ew, a1, hl6, outD]
          | false => simp [-ixD, v0_p_truth, lastw, wai_1, wai_2, e, e0, tagR, e1, ew, a1, hl6]) with h | h
        · exact .inl h
        · exact .inr (.inl h)
      | down c h ds l =>
        have e1 : ixD (rpD (some (.down c h ds l))) (.int 2) = .ok (nm h) := rfl
        have ew : (.tuple [.str (Str.ofString "door"), nm h, .str (Str.ofString "door")] : Dat) = waiD ⟨Str.ofString "door", h, Str.ofString "door"⟩ := rfl
        rcases onn ⟨Str.ofString "door", h, Str.ofString "door"⟩ rfl ((hPP _ _).mpr ⟨List.mem_cons_of_mem _ (hv.2.1 c h ds l rfl), .inr rfl⟩) (fun b hb => by
          have a1 := hwa ⟨Str.ofString "door", h, Str.ofString "door"⟩
          rw [hb] at a1
          cases b with
          | true => simp [-ixD, v0_p_truth, lastw, wai_1, wai_2, e, e0, tagR, e1, ew, a1, hl6, outD]
          | false => simp [-ixD, v0_p_truth, lastw, wai_1, wai_2, e, e0, tagR, e1, ew, a1, hl6]) with h | h
        · exact .inl h
        · exact .inr (.inl h)
  obtain ⟨o, ho, hq⟩ := hw
  exact ⟨o, ho, hq⟩
theorem r_truth (L : List (Str × List Zn)) (P : List (List Str)) (g : GdL L P) (root : Str) (n0 : List Str) (hn0 : n0.length ≤ 900) (k0 : Str) (k1 : k0 ≠ Str.ofString "down") (k2 : k0 ≠ Str.ofString "else") :
    ∃ F o, CHT.Chg (kpL L) root F ∧ f_p_charges [hsP L, .str root] = .ok (.list (F.map fdD)) ∧ TruthR (replyO L root F) [] ⟨Str.ofString "asked", n0, k0⟩ o ∧ f_p_truth [hsP L, .str root, nm n0, .str k0] = .ok (outD o) := by
  obtain ⟨F, hF, e⟩ := r_charges L P g root
  obtain ⟨o, ho, e2⟩ := truth_loop L P g root F hF.toHd n0 hn0 k0 k1 k2
  have ew : (.tuple [.str (Str.ofString "asked"), nm n0, .str k0] : Dat) = waiD ⟨Str.ofString "asked", n0, k0⟩ := rfl
  refine ⟨F, o, hF, e, ho, ?_⟩
  simp [f_p_truth, b_p_truth, e, ew, e2]
def wdN (a t n k : Int) : List Nat := (List.range n.toNat).map fun j : Nat => signs.getD ((part a ((j : Int) + 2) 37 + (if (j : Int) = t then k else 0)) % 37).toNat 0
theorem signs_nd : signs.Nodup := by decide +kernel
theorem sl6 : signs.length ≤ 1000000 := by rw [signs_len]; omega
theorem r_words (a b : Int) : ∃ W : List Str, f_l_words [.int a, .int b, .int 6] = .ok (.list (W.map .str)) ∧ W.length = 6 ∧ W.Nodup := by
  have p0 := r_part a 0 12 (by omega)
  have l0 := part_lo a 0 12 (by omega)
  have u0 := part_hi a 0 12 (by omega)
  generalize part a 0 12 = q at *
  obtain ⟨n, hn⟩ := Int.eq_ofNat_of_zero_le (a := 1 + q) (by omega)
  have p1 := r_part b 1 (n : Int) (by omega)
  have tl := part_lo b 1 (n : Int) (by omega)
  have tu := part_hi b 1 (n : Int) (by omega)
  generalize part b 1 (n : Int) = t at *
  let st : List Str → Int → List Nat → En := fun W k l => [.fz (.int a), .fz (.int b), .fz (.int 6), .fz (.str (tx signs)), .fz (.int n), .fz (.int t), .ow (W.map .str), .fz (.int k), .fz (.str (tx l)), .un, .un]
  have inner : ∀ (W : List Str) (k : Nat), k < 6 → exS Q_l_words w0_l_words (st W k []) = .nx (st W k (wdN a t n k)) := fun W k hk => by
    have z := (for_fold (P := Q_l_words) (tmp := [9, 10]) (tg := .nm 9) (it := .rng1 (.var 4)) (body := v0_l_words) (ρ := st W k []) (fun i : Nat => PyData.int (i : Int)) (List.range n) (st W k) (fun l j => l ++ [signs.getD ((part a ((j : Int) + 2) 37 + (if (j : Int) = t then (k : Int) else 0)) % 37).toNat 0]) (fun r l => l.length + r.length = n) [] (by simp [st]; exact r1R_nat (by omega)) (by simp) rfl fun l j r _ h => ?_).1
    · have e : ∀ (xs : List Nat) (acc : List Nat), xs.foldl (fun l (j : Nat) => l ++ [signs.getD ((part a ((j : Int) + 2) 37 + (if (j : Int) = t then (k : Int) else 0)) % 37).toNat 0]) acc = acc ++ xs.map fun j : Nat => signs.getD ((part a ((j : Int) + 2) 37 + (if (j : Int) = t then (k : Int) else 0)) % 37).toNat 0 := fun xs => by
        induction xs with
        | nil => simp
        | cons x xs ih => intro acc; rw [List.foldl_cons, ih]; simp
      rw [e, List.nil_append] at z
      exact z
    · have pj := r_part a ((j : Int) + 2) 37 (by omega)
      have bl : l.length + 1 ≤ 1000000 := by simp at h; omega
      generalize part a ((j : Int) + 2) 37 = z at *
      by_cases e : (j : Int) = t
      · refine ⟨by simp at h ⊢; omega, _, [.fz (.int a), .fz (.int b), .fz (.int 6), .fz (.str (tx signs)), .fz (.int n), .fz (.int t), .ow (W.map .str), .fz (.int k), .fz (.str (tx (l ++ [signs.getD ((z + k) % 37).toNat 0]))), .fz (.int j), .fz (.int (z + k))], rfl, .inl ?_, ?_⟩
        · subst e
          simp [st, v0_l_words, pj, bin_mod, at_signs, one_s, bin_cat, bl, tx_cat, sl6]
        · rw [if_pos e]; rfl
      · refine ⟨by simp at h ⊢; omega, _, [.fz (.int a), .fz (.int b), .fz (.int 6), .fz (.str (tx signs)), .fz (.int n), .fz (.int t), .ow (W.map .str), .fz (.int k), .fz (.str (tx (l ++ [signs.getD (z % 37).toNat 0]))), .fz (.int j), .fz (.int z)], rfl, .inl ?_, ?_⟩
        · simp [st, v0_l_words, pj, bin_mod, at_signs, one_s, bin_cat, bl, tx_cat, e, sl6]
        · rw [if_neg e, Int.add_zero]; rfl
  have wdl : ∀ k : Int, (wdN a t n k).length = n := fun k => by simp [wdN]
  have outer : exS Q_l_words w1_l_words [.fz (.int a), .fz (.int b), .fz (.int 6), .fz (.str (tx signs)), .fz (.int n), .fz (.int t), .ow [], .un, .un, .un, .un] = .nx [.fz (.int a), .fz (.int b), .fz (.int 6), .fz (.str (tx signs)), .fz (.int n), .fz (.int t), .ow (((List.range 6).map fun k : Nat => tx (wdN a t n k)).map .str), .un, .un, .un, .un] := by
    have z := (for_fold (P := Q_l_words) (tmp := [7, 8, 9, 10]) (tg := .nm 7) (it := .rng1 (.var 2)) (body := v1_l_words) (ρ := [.fz (.int a), .fz (.int b), .fz (.int 6), .fz (.str (tx signs)), .fz (.int n), .fz (.int t), .ow [], .un, .un, .un, .un]) (fun i : Nat => PyData.int (i : Int)) (List.range 6) (fun W : List Str => [.fz (.int a), .fz (.int b), .fz (.int 6), .fz (.str (tx signs)), .fz (.int n), .fz (.int t), .ow (W.map .str), .un, .un, .un, .un]) (fun W k => W ++ [tx (wdN a t n k)]) (fun r W => W.length + r.length = 6 ∧ ∀ x ∈ r, x < 6) [] (by simp; exact r1R_nat (n := 6) (by omega)) ⟨by simp, fun x hx => by simpa using hx⟩ rfl fun W k r hk h => ?_).1
    · have e : ∀ (xs : List Nat) (acc : List Str), xs.foldl (fun W (k : Nat) => W ++ [tx (wdN a t n k)]) acc = acc ++ xs.map fun k : Nat => tx (wdN a t n k) := fun xs => by
        induction xs with
        | nil => simp
        | cons x xs ih => intro acc; rw [List.foldl_cons, ih]; simp
      rw [e, List.nil_append] at z
      exact z
    · have i := inner W k (h.2 k (by simp))
      have hl : W.length < 1000000 := by have := h.1; simp at this; omega
      refine ⟨⟨by have := h.1; simp at this ⊢; omega, fun x hx => h.2 x (by simp [hx])⟩, _, [.fz (.int a), .fz (.int b), .fz (.int 6), .fz (.str (tx signs)), .fz (.int n), .fz (.int t), .ow ((W ++ [tx (wdN a t n k)]).map .str), .fz (.int k), .fz (.str (tx (wdN a t n k))), .un, .un], rfl, .inl ?_, rfl⟩
      simp only [st] at i
      simp [v1_l_words, i, hl, empty_s]
  refine ⟨(List.range 6).map fun k : Nat => tx (wdN a t n k), ?_, by simp, ?_⟩
  · simp [f_l_words, b_l_words, p0, hn, p1, signs_s]
    simp [outer]
  · have inj : ∀ i j : Nat, i < 6 → j < 6 → tx (wdN a t n i) = tx (wdN a t n j) → i = j := fun i j hi hj e => by
      have e := tx_inj e
      have ht : t.toNat < n := by omega
      have e1 : (wdN a t n i)[t.toNat]? = (wdN a t n j)[t.toNat]? := by rw [e]
      have et : ((t.toNat : Nat) : Int) = t := by omega
      simp only [wdN, List.getElem?_map, List.getElem?_range (show t.toNat < (n : Int).toNat from by omega), Option.map_some, et, if_true, Option.some.injEq] at e1
      generalize part a (t + 2) 37 = z at e1
      have b1 : ((z + (i : Int)) % 37).toNat < signs.length := by rw [signs_len]; omega
      have b2 : ((z + (j : Int)) % 37).toNat < signs.length := by rw [signs_len]; omega
      simp only [List.getD_eq_getElem?_getD, List.getElem?_eq_getElem b1, List.getElem?_eq_getElem b2, Option.getD_some] at e1
      have := (List.getElem_inj signs_nd).mp e1
      omega
    refine List.pairwise_map.mpr (List.Pairwise.imp_of_mem (R := fun i j => i < j) (fun {i j} hi hj h e => ?_) List.pairwise_lt_range)
    have := inj i j (List.mem_range.mp hi) (List.mem_range.mp hj) e
    omega
abbrev sHost : Str := Str.ofString "host"
abbrev sKeep : Str := Str.ofString "keeper"
abbrev sOwn : Str := Str.ofString "own"
abbrev sDoor : Str := Str.ofString "door"
abbrev sHere : Str := Str.ofString "here"
abbrev sMark : Str := Str.ofString "mark"
structure Cfg where
  W : List Str
  N : List Nat
  V : List Nat
  m : Nat
  l : Int
  hW : W.length = 6
  nd : W.Nodup
  hN : N.length = m
  hV : V.length = m
  nN : ∀ n ∈ N, n < m
  vV : ∀ v ∈ V, v ≤ 3
  hm : m ≤ 6
namespace Cfg
def wd (c : Cfg) (k : Nat) : Str := c.W.getD k (tx [])
def nx (c : Cfg) (k : Nat) : Nat := c.N.getD k 0
def wy (c : Cfg) (k : Nat) : Nat := c.V.getD k 0
theorem nx_lt (c : Cfg) {k : Nat} (h : k < c.m) : c.nx k < c.m := by
  unfold nx
  have hk : k < c.N.length := by rw [c.hN]; exact h
  rw [List.getD_eq_getElem?_getD, List.getElem?_eq_getElem hk]
  exact c.nN _ (List.getElem_mem hk)
theorem wy_le (c : Cfg) {k : Nat} (h : k < c.m) : c.wy k ≤ 3 := by
  unfold wy
  have hk : k < c.V.length := by rw [c.hV]; exact h
  rw [List.getD_eq_getElem?_getD, List.getElem?_eq_getElem hk]
  exact c.vV _ (List.getElem_mem hk)
theorem wd_inj (c : Cfg) {i j : Nat} (hi : i < c.m) (hj : j < c.m) (e : c.wd i = c.wd j) : i = j := by
  have h1 : i < c.W.length := by rw [c.hW]; have := c.hm; omega
  have h2 : j < c.W.length := by rw [c.hW]; have := c.hm; omega
  unfold wd at e
  simp only [List.getD_eq_getElem?_getD, List.getElem?_eq_getElem h1, List.getElem?_eq_getElem h2, Option.getD_some] at e
  exact (List.getElem_inj c.nd).mp e
def WD (c : Cfg) : Dat := .list (c.W.map .str)
def ND (c : Cfg) : Dat := .list (c.N.map fun n : Nat => PyData.int (n : Int))
def VD (c : Cfg) : Dat := .list (c.V.map fun n : Nat => PyData.int (n : Int))
theorem ixW (c : Cfg) {k : Nat} (h : k < 6) : ixD c.WD (.int (k : Int)) = .ok (.str (c.wd k)) := by
  have h1 : k < c.W.length := by rw [c.hW]; exact h
  simp [WD, atI_nat, wd, List.getElem?_eq_getElem h1]
theorem ixN (c : Cfg) {k : Nat} (h : k < c.m) : ixD c.ND (.int (k : Int)) = .ok (.int (c.nx k : Int)) := by
  have h1 : k < c.N.length := by rw [c.hN]; exact h
  simp [ND, atI_nat, nx, List.getElem?_eq_getElem h1]
theorem ixV (c : Cfg) {k : Nat} (h : k < c.m) : ixD c.VD (.int (k : Int)) = .ok (.int (c.wy k : Int)) := by
  have h1 : k < c.V.length := by rw [c.hV]; exact h
  simp [VD, atI_nat, wy, List.getElem?_eq_getElem h1]
def keeper (c : Cfg) (k : Nat) : List Str := [c.wd k, sKeep]
def rHost (c : Cfg) (k : Nat) : Row := ⟨[c.wd k, sHost], 5, sMark, .s (c.wd k)⟩
def rKeep (c : Cfg) (k : Nat) : Row := ⟨[c.wd k, sKeep], 5, sDoor, .s sHere⟩
def rElse (c : Cfg) (k : Nat) : Row := ⟨[c.wd k, sKeep], 5, Str.ofString "else", .n (c.keeper (c.nx k))⟩
def rDown (c : Cfg) (k : Nat) : Row := ⟨[c.wd k], 5, Str.ofString "down", .n (if c.wy k = 0 then c.keeper (c.nx k) else [c.wd k, sOwn])⟩
def rOwn (c : Cfg) (k : Nat) : Row := ⟨[c.wd k, sOwn], 5, sDoor, .s sHere⟩
def rowsK (c : Cfg) (k : Nat) : List Row := c.rHost k :: ((if c.wy k < 2 then [c.rKeep k] else []) ++ (if c.wy k = 3 then [c.rElse k] else []))
def zoneK (c : Cfg) (k : Nat) : Zn := ⟨sHere, [c.wd k], c.l, c.rowsK k⟩
def rootK (c : Cfg) (k : Nat) : List Row := if c.wy k = 0 then [c.rDown k] else [c.rDown k, c.rOwn k]
def zone0 (c : Cfg) : Zn := ⟨sHere, [], c.l, (List.range c.m).flatMap c.rootK⟩
def LL (c : Cfg) : List (Str × List Zn) := [(sHere, c.zone0 :: (List.range c.m).map c.zoneK)]
theorem r_zone (c : Cfg) {k : Nat} (h : k < c.m) : f_l_zone [c.WD, c.ND, c.VD, .int (k : Int), .int c.l] = .ok (zoD (c.zoneK k)) := by
  have hm := c.hm
  have a1 := c.ixW (k := k) (by omega)
  have a2 := c.ixV h
  have a3 := c.ixN h
  have a4 := c.ixW (k := c.nx k) (by have := c.nx_lt h; omega)
  by_cases h1 : c.wy k < 2
  · have h2 : ¬ c.wy k = 3 := by omega
    have h3 : ¬ (c.wy k : Int) = 3 := by omega
    have h4 : (c.wy k : Int) < 2 := by omega
    simp [-ixD, f_l_zone, b_l_zone, a1, a2, h3, h4]
    simp [zoD, zoneD, zoneK, rowsK, h1, h2, rowD, valD, rHost, rKeep]
  · have h4 : ¬ (c.wy k : Int) < 2 := by omega
    by_cases h2 : c.wy k = 3
    · have h3 : (c.wy k : Int) = 3 := by omega
      simp [-ixD, f_l_zone, b_l_zone, a1, a2, a3, a4, h3, h4]
      simp [zoD, zoneD, zoneK, rowsK, h1, h2, rowD, valD, rHost, rElse, keeper]
    · have h3 : ¬ (c.wy k : Int) = 3 := by omega
      simp [-ixD, f_l_zone, b_l_zone, a1, a2, a3, a4, h3, h4]
      simp [zoD, zoneD, zoneK, rowsK, h1, h2, rowD, valD, rHost]
theorem r_houses (c : Cfg) : f_l_houses [c.WD, c.ND, c.VD, .int c.l] = .ok (hsP c.LL) := by
  have hm := c.hm
  have ln : biD .len [c.ND] = .ok (.int (c.m : Int)) := by simp [ND, c.hN]
  have w0 : exS Q_l_houses w0_l_houses [.fz c.WD, .fz c.ND, .fz c.VD, .fz (.int c.l), .ow [], .un, .un] = .nx [.fz c.WD, .fz c.ND, .fz c.VD, .fz (.int c.l), .ow (((List.range c.m).flatMap c.rootK).map rowD), .un, .un] := by
    have z := (for_fold (P := Q_l_houses) (tmp := [5]) (tg := .nm 5) (it := .rng1 (.bi .len (.cons (.var 1) .nil))) (body := v0_l_houses) (ρ := [.fz c.WD, .fz c.ND, .fz c.VD, .fz (.int c.l), .ow [], .un, .un]) (fun i : Nat => PyData.int (i : Int)) (List.range c.m) (fun R : List Row => [.fz c.WD, .fz c.ND, .fz c.VD, .fz (.int c.l), .ow (R.map rowD), .un, .un]) (fun R k => R ++ c.rootK k) (fun r R => R.length + 2 * r.length ≤ 12 ∧ ∀ x ∈ r, x < c.m) [] (by simp [-biD, ln]; exact r1R_nat (by omega)) ⟨by simp; omega, fun x hx => by simpa using hx⟩ rfl fun R k r hk h => ?_).1
    · have e : ∀ (xs : List Nat) (acc : List Row), xs.foldl (fun R k => R ++ c.rootK k) acc = acc ++ xs.flatMap c.rootK := fun xs => by
        induction xs with
        | nil => simp
        | cons x xs ih => intro acc; rw [List.foldl_cons, ih]; simp
      rw [e, List.nil_append] at z
      exact z
    · have hk := h.2 k (by simp)
      have a1 := c.ixW (k := k) (by omega)
      have a2 := c.ixV hk
      have a3 := c.ixN hk
      have a4 := c.ixW (k := c.nx k) (by have := c.nx_lt hk; omega)
      have hl := h.1
      simp only [List.length_cons] at hl
      have l1 : R.length < 1000000 := by omega
      have l2 : R.length + 1 < 1000000 := by omega
      have hr : ∀ x ∈ r, x < c.m := fun x hx => h.2 x (by simp [hx])
      by_cases h0 : c.wy k = 0
      · have h1 : (c.wy k : Int) = 0 := by omega
        refine ⟨⟨by simp [rootK, h0]; omega, hr⟩, _, [.fz c.WD, .fz c.ND, .fz c.VD, .fz (.int c.l), .ow ((R ++ c.rootK k).map rowD), .fz (.int k), .un], rfl, .inl ?_, rfl⟩
        simp [-ixD, v0_l_houses, a1, a2, a3, a4, h0, h1, l1]
        simp [rootK, h0, rowD, valD, rDown, keeper]
      · have h1 : ¬ (c.wy k : Int) = 0 := by omega
        refine ⟨⟨by simp [rootK, h0]; omega, hr⟩, _, [.fz c.WD, .fz c.ND, .fz c.VD, .fz (.int c.l), .ow ((R ++ c.rootK k).map rowD), .fz (.int k), .un], rfl, .inl ?_, rfl⟩
        simp [-ixD, v0_l_houses, a1, a2, a3, a4, h0, h1, l1, l2]
        simp [rootK, h0, rowD, valD, rDown, rOwn]
  have e0 : ∀ x, ev Q_l_houses e0_l_houses [.fz c.WD, .fz c.ND, .fz c.VD, .fz (.int c.l), x, .un, .un] = .ok (.list (((List.range c.m).map c.zoneK).map zoD)) := fun x => by
    rw [List.map_map]
    refine lc_map (fun i : Nat => PyData.int (i : Int)) (fun k => zoD (c.zoneK k)) (List.range c.m) (by simp [-biD, ln]; exact r1R_nat (by omega)) (by simp; omega) fun k hk => ⟨_, rfl, by simp, ?_⟩
    have := c.r_zone (List.mem_range.mp hk)
    simp [this]
  have e1 : (.tuple [.tuple [], .int c.l, .list (((List.range c.m).flatMap c.rootK).map rowD)] : Dat) = zoD c.zone0 := rfl
  have hl : 1 + ((List.range c.m).map c.zoneK).length ≤ 1000000 := by simp; omega
  generalize ((List.range c.m).flatMap c.rootK).map rowD = R0 at *
  have b : binD .add (.list [zoD c.zone0]) (.list (((List.range c.m).map c.zoneK).map zoD)) = .ok (.list ((c.zone0 :: (List.range c.m).map c.zoneK).map zoD)) := by
    rw [bin_lst _ _ (by simp; omega)]
    rfl
  simp [-List.map_map, -biD, f_l_houses, b_l_houses, w0, e0, e1, b, hsP, LL]
end Cfg
namespace Cfg
@[simp] theorem ne_hk : (Str.ofString "host" = Str.ofString "keeper") = False := eq_false (by decide +kernel)
@[simp] theorem ne_kh : (Str.ofString "keeper" = Str.ofString "host") = False := eq_false (by decide +kernel)
@[simp] theorem ne_ok : (Str.ofString "own" = Str.ofString "keeper") = False := eq_false (by decide +kernel)
@[simp] theorem ne_ko : (Str.ofString "keeper" = Str.ofString "own") = False := eq_false (by decide +kernel)
@[simp] theorem ne_star1 : (Str.ofString "*" = Str.ofString "host") = False := eq_false (by decide +kernel)
@[simp] theorem ne_star2 : (Str.ofString "*" = Str.ofString "keeper") = False := eq_false (by decide +kernel)
@[simp] theorem ne_star3 : (Str.ofString "host" = Str.ofString "*") = False := eq_false (by decide +kernel)
@[simp] theorem ne_star4 : (Str.ofString "keeper" = Str.ofString "*") = False := eq_false (by decide +kernel)
def PP (c : Cfg) : List (List Str) := (List.range c.m).flatMap fun k => [[c.wd k], c.keeper k, [c.wd k, sOwn]]
theorem inPP (c : Cfg) {k : Nat} (h : k < c.m) : [c.wd k] ∈ c.PP ∧ c.keeper k ∈ c.PP ∧ [c.wd k, sOwn] ∈ c.PP := by
  have : ∀ x ∈ [[c.wd k], c.keeper k, [c.wd k, sOwn]], x ∈ c.PP := fun x hx => List.mem_flatMap.mpr ⟨k, List.mem_range.mpr h, hx⟩
  exact ⟨this _ (by simp), this _ (by simp), this _ (by simp)⟩
theorem root_mem (c : Cfg) {r : Row} (h : r ∈ c.zone0.rows) : ∃ k, k < c.m ∧ (r = c.rDown k ∨ (r = c.rOwn k ∧ c.wy k ≠ 0)) := by
  have h : r ∈ (List.range c.m).flatMap c.rootK := h
  obtain ⟨k, hk, h⟩ := List.mem_flatMap.mp h
  refine ⟨k, List.mem_range.mp hk, ?_⟩
  unfold rootK at h
  split at h
  · simp at h; exact .inl h
  · rename_i w
    simp at h
    rcases h with h | h
    · exact .inl h
    · exact .inr ⟨h, w⟩
theorem rowsK_mem (c : Cfg) {k : Nat} {r : Row} (h : r ∈ c.rowsK k) : r = c.rHost k ∨ r = c.rKeep k ∨ r = c.rElse k := by
  unfold rowsK at h
  simp only [List.mem_cons, List.mem_append] at h
  rcases h with h | h | h
  · exact .inl h
  · split at h
    · simp at h; exact .inr (.inl h)
    · simp at h
  · split at h
    · simp at h; exact .inr (.inr h)
    · simp at h
theorem downs_k (c : Cfg) (k : Nat) : downs (c.rowsK k) = [] := by
  unfold downs
  rw [List.map_eq_nil_iff, List.filter_eq_nil_iff]
  intro r hr
  rcases c.rowsK_mem hr with rfl | rfl | rfl <;> simp [rHost, rKeep, rElse, sMark, sDoor]
theorem downs_0 (c : Cfg) : downs c.zone0.rows = (List.range c.m).map fun k => [c.wd k] := by
  show downs ((List.range c.m).flatMap c.rootK) = _
  generalize List.range c.m = l
  unfold downs
  induction l with
  | nil => rfl
  | cons k l ih =>
    rw [List.flatMap_cons, List.filter_append, List.map_append, ih, List.map_cons]
    have : (List.filter (fun r : Row => decide (r.kind = Str.ofString "down")) (c.rootK k)).map Row.nm = [[c.wd k]] := by
      unfold rootK
      split <;> simp [rDown, rOwn, sDoor]
    rw [this]
    rfl
theorem gdL (c : Cfg) : GdL c.LL c.PP := by
  have hm := c.hm
  have a0 : ∀ d, ∀ z ∈ atP c.LL d, z = c.zone0 ∨ ∃ k, k < c.m ∧ z = c.zoneK k := fun d z hz => by
    unfold atP LL at hz
    by_cases h : sHere = d
    · simp [h] at hz
      rcases hz with rfl | ⟨k, hk, rfl⟩
      · exact .inl rfl
      · exact .inr ⟨k, hk, rfl⟩
    · simp [h] at hz
  have lk : ∀ k, k < c.m → ∀ a, (a = [c.wd k] ∨ a = c.keeper k ∨ a = [c.wd k, sOwn]) → a.length ≤ 2 := fun k hk a h => by
    rcases h with rfl | rfl | rfl <;> simp [keeper]
  refine ⟨fun d z hz => ?_, ?_, fun a ha => ?_⟩
  · rcases a0 d z hz with rfl | ⟨k, hk, rfl⟩
    · refine ⟨?_, fun r hr => ?_, fun r hr => List.nil_prefix, ?_, fun r hr => ?_, fun r hr hd => ?_, fun r hr a ha => ?_⟩
      · have : ∀ l : List Nat, (l.flatMap c.rootK).length ≤ 2 * l.length := fun l => by
          induction l with
          | nil => simp
          | cons k l ih =>
            have : (c.rootK k).length ≤ 2 := by unfold rootK; split <;> simp
            simp only [List.flatMap_cons, List.length_append, List.length_cons]
            omega
        have := this (List.range c.m)
        rw [List.length_range] at this
        show ((List.range c.m).flatMap c.rootK).length < 64
        omega
      · obtain ⟨k, hk, rfl | ⟨rfl, _⟩⟩ := c.root_mem hr
        · exact ⟨fun _ => ⟨_, rfl⟩, fun h => absurd rfl h⟩
        · exact ⟨fun h => by rcases h with h | h <;> simp [rOwn, sDoor] at h, fun _ _ => ⟨_, rfl⟩⟩
      · rw [downs_0]
        refine List.pairwise_map.mpr (List.Pairwise.imp_of_mem (R := fun i j => i < j) (fun {i j} hi hj h e => ?_) List.pairwise_lt_range)
        simp only [List.cons.injEq, and_true] at e
        have := c.wd_inj (List.mem_range.mp hi) (List.mem_range.mp hj) e
        omega
      · obtain ⟨k, hk, rfl | ⟨rfl, _⟩⟩ := c.root_mem hr <;> simp [rDown, rOwn]
      · obtain ⟨k, hk, rfl | ⟨rfl, _⟩⟩ := c.root_mem hr
        · exact (c.inPP hk).1
        · simp [rOwn, sDoor] at hd
      · obtain ⟨k, hk, rfl | ⟨rfl, _⟩⟩ := c.root_mem hr
        · simp only [rDown, Val.n.injEq] at ha
          rw [← ha]
          split
          · exact (c.inPP (c.nx_lt hk)).2.1
          · exact (c.inPP hk).2.2
        · cases ha
    · refine ⟨?_, fun r hr => ?_, fun r hr => ?_, ?_, fun r hr => ?_, fun r hr hd => ?_, fun r hr a ha => ?_⟩
      · show (c.rowsK k).length < 64
        unfold rowsK
        split <;> split <;> simp
      · rcases c.rowsK_mem hr with rfl | rfl | rfl
        · exact ⟨fun h => by rcases h with h | h <;> simp [rHost, sMark] at h, fun _ _ => ⟨_, rfl⟩⟩
        · exact ⟨fun h => by rcases h with h | h <;> simp [rKeep, sDoor] at h, fun _ _ => ⟨_, rfl⟩⟩
        · exact ⟨fun _ => ⟨_, rfl⟩, fun _ h => absurd rfl h⟩
      · rcases c.rowsK_mem hr with rfl | rfl | rfl <;> exact ⟨_, rfl⟩
      · show (downs (c.rowsK k)).Nodup
        rw [downs_k]; simp
      · rcases c.rowsK_mem hr with rfl | rfl | rfl <;> simp [rHost, rKeep, rElse]
      · rcases c.rowsK_mem hr with rfl | rfl | rfl <;> simp [rHost, rKeep, rElse, sMark, sDoor] at hd
      · rcases c.rowsK_mem hr with rfl | rfl | rfl
        · cases ha
        · cases ha
        · simp only [rElse, Val.n.injEq] at ha
          rw [← ha]
          exact (c.inPP (c.nx_lt hk)).2.1
  · unfold PP
    have : ∀ l : List Nat, (l.flatMap fun k => [[c.wd k], c.keeper k, [c.wd k, sOwn]]).length = 3 * l.length := fun l => by
      induction l with
      | nil => rfl
      | cons k l ih => simp only [List.flatMap_cons, List.length_append, ih, List.length_cons, List.length_nil]; omega
    rw [this, List.length_range]
    omega
  · obtain ⟨k, hk, h⟩ := List.mem_flatMap.mp ha
    simp only [List.mem_cons, List.not_mem_nil, or_false] at h
    have := lk k (List.mem_range.mp hk) a h
    omega
theorem kp_here (c : Cfg) (d : Str) (t : List Str) (z : Zn) : kpZ c.LL d t = some z ↔ d = sHere ∧ ((t = [] ∧ z = c.zone0) ∨ ∃ k, k < c.m ∧ t = [c.wd k] ∧ z = c.zoneK k) := by
  by_cases hd : sHere = d
  · subst hd
    have e : atP c.LL sHere = c.zone0 :: (List.range c.m).map c.zoneK := by simp [atP, LL]
    unfold kpZ
    rw [e]
    cases t with
    | nil =>
      rw [List.find?_cons_of_pos (by simp [zone0])]
      constructor
      · intro h; cases h; exact ⟨rfl, .inl ⟨rfl, rfl⟩⟩
      · rintro ⟨_, ⟨_, rfl⟩ | ⟨k, _, h, _⟩⟩
        · rfl
        · cases h
    | cons w t =>
      rw [List.find?_cons_of_neg (by simp [zone0])]
      constructor
      · intro h
        have h1 := List.mem_of_find?_eq_some h
        have h2 := List.find?_some h
        obtain ⟨k, hk, rfl⟩ := List.mem_map.mp h1
        simp only [decide_eq_true_eq] at h2
        exact ⟨rfl, .inr ⟨k, List.mem_range.mp hk, h2.symm, rfl⟩⟩
      · rintro ⟨_, ⟨h, _⟩ | ⟨k, hk, h, rfl⟩⟩
        · cases h
        · cases q : ((List.range c.m).map c.zoneK).find? fun z => decide (z.top = w :: t) with
          | none =>
            rw [List.find?_eq_none] at q
            exact absurd (decide_eq_true h.symm) (q (c.zoneK k) (List.mem_map_of_mem (List.mem_range.mpr hk)))
          | some u =>
            have h1 := List.mem_of_find?_eq_some q
            have h2 := List.find?_some q
            obtain ⟨j, hj, rfl⟩ := List.mem_map.mp h1
            simp only [decide_eq_true_eq] at h2
            rw [h] at h2
            have h3 : c.wd j = c.wd k := by have : [c.wd j] = [c.wd k] := h2; simpa using this
            rw [c.wd_inj (List.mem_range.mp hj) hk h3]
  · have e : atP c.LL d = [] := by simp [atP, LL, hd]
    unfold kpZ
    rw [e]
    simp
    intro h
    exact absurd h.symm hd
/-! replies -/
theorem tk_none (c : Cfg) (k : Nat) (n : List Str) : cutOf [c.wd k] (c.rowsK k) n = none := by
  cases h : cutOf [c.wd k] (c.rowsK k) n with
  | none => rfl
  | some u =>
    have := ((cut_iff _ _ _ _).mp h).2.2.1
    rw [downs_k] at this
    simp at this
theorem tk_host (c : Cfg) (k : Nat) : toldO [c.wd k] c.l (c.rowsK k) [c.wd k, sHost] sMark = .rows [c.wd k] 5 := by
  have h0 : stdB [c.wd k] (c.rowsK k) [c.wd k, sHost] = true := by simp [stdB, rowsK, rHost]
  unfold toldO
  rw [tk_none]
  simp only [lookAt, h0, if_true]
  have e : rowsAt (c.rowsK k) [c.wd k, sHost] = [c.rHost k] := by
    unfold rowsAt rowsK
    split <;> split <;> simp [rHost, rKeep, rElse, sHost, sKeep]
  rw [e]
  simp [toldBy, rHost, sMark, sortStr, minI, minL, strOf]
theorem tk_keep (c : Cfg) (k : Nat) : toldO [c.wd k] c.l (c.rowsK k) (c.keeper k) sDoor = if c.wy k < 2 then .rows [sHere] 5 else if c.wy k = 3 then .els (c.keeper (c.nx k)) 5 else .non c.l := by
  unfold toldO
  rw [tk_none]
  simp only
  by_cases h1 : c.wy k < 2
  · have h2 : ¬ c.wy k = 3 := by omega
    have h0 : stdB [c.wd k] (c.rowsK k) (c.keeper k) = true := by simp [stdB, rowsK, rKeep, keeper, h1]
    have e : rowsAt (c.rowsK k) (c.keeper k) = [c.rKeep k] := by simp [rowsAt, rowsK, h1, h2, rHost, rKeep, sHost, sKeep, keeper]
    simp only [lookAt, h0, if_true, e]
    simp [toldBy, rKeep, sDoor, sortStr, minI, minL, strOf, h1]
  · by_cases h2 : c.wy k = 3
    · have h0 : stdB [c.wd k] (c.rowsK k) (c.keeper k) = true := by simp [stdB, rowsK, rElse, keeper, h2]
      have e : rowsAt (c.rowsK k) (c.keeper k) = [c.rElse k] := by simp [rowsAt, rowsK, h1, h2, rHost, rElse, sHost, sKeep, keeper]
      simp only [lookAt, h0, if_true, e]
      simp [toldBy, rElse, nmOf, h2]
    · have h0 : stdB [c.wd k] (c.rowsK k) (c.keeper k) = false := by simp [stdB, rowsK, rHost, keeper, h1, h2, sHost, sKeep]
      have hs : lastStd [c.wd k] (c.rowsK k) (c.keeper k) 1 = 1 := by simp [lastStd, stdB, keeper]
      have e1 : lookAt [c.wd k] (c.rowsK k) (c.keeper k) = [c.wd k, Str.ofString "*"] := by
        unfold lookAt
        rw [h0]
        have : (c.keeper k).length - 1 = 1 := rfl
        rw [this, hs]
        simp [keeper]
      have e : rowsAt (c.rowsK k) [c.wd k, Str.ofString "*"] = [] := by simp [rowsAt, rowsK, h1, h2, rHost, sHost]
      rw [e1, e]
      simp [keeper, sKeep, h1, h2]
/-- the whole's zone hands all down -/
def house (c : Cfg) (k : Nat) : List Str := if c.wy k = 0 then c.keeper (c.nx k) else [c.wd k, sOwn]
theorem down0 (c : Cfg) {k : Nat} (hk : k < c.m) : downAt c.zone0.rows [c.wd k] = some (c.rDown k) := by
  have h : (downAt c.zone0.rows [c.wd k]).isSome = true := by
    rw [down_some, downs_0]
    exact decide_eq_true (List.mem_map.mpr ⟨k, List.mem_range.mpr hk, rfl⟩)
  obtain ⟨r, hr⟩ := Option.isSome_iff_exists.mp h
  obtain ⟨h1, h2, h3⟩ := down_good _ _ _ hr
  obtain ⟨j, hj, rfl | ⟨rfl, _⟩⟩ := c.root_mem h1
  · have : [c.wd j] = [c.wd k] := h2
    have := c.wd_inj hj hk (by simpa using this)
    rw [hr, this]
  · simp [rOwn, sDoor] at h3
theorem cut0 (c : Cfg) {k : Nat} (hk : k < c.m) (t : List Str) : cutOf [] c.zone0.rows (c.wd k :: t) = some [c.wd k] := by
  refine (cut_iff _ _ _ _).mpr ⟨⟨t, rfl⟩, by simp, ?_, fun u _ h _ => by simp at h ⊢; omega⟩
  rw [downs_0]
  exact List.mem_map.mpr ⟨k, List.mem_range.mpr hk, rfl⟩
def cut (c : Cfg) (k : Nat) : SCut := cutA c.zone0.rows [c.wd k]
theorem cut_nm (c : Cfg) (k : Nat) : (c.cut k).nm = [c.wd k] := cutA_nm _ _
theorem cut_house (c : Cfg) {k : Nat} (hk : k < c.m) : (c.cut k).house = c.house k := by
  unfold cut cutA
  rw [c.down0 hk]
  rfl
theorem sort_mem (xs : List Str) (x : Str) : x ∈ sortStr xs ↔ x ∈ xs := by
  unfold sortStr
  exact List.mem_mergeSort
theorem cut_doors (c : Cfg) {k : Nat} (hk : k < c.m) : (∀ d ∈ (c.cut k).doors, d = sHere) ∧ ((c.cut k).doors = [] ↔ c.wy k = 0) := by
  have e : (c.cut k).doors = sortStr ((doorsAt c.zone0.rows [c.wd k] (c.house k)).map strOf) := by
    unfold cut cutA
    rw [c.down0 hk]
    rfl
  rw [e]
  have sub : ∀ r ∈ doorsAt c.zone0.rows [c.wd k] (c.house k), ∃ j, j < c.m ∧ r = c.rOwn j ∧ r.nm = c.house k ∧ c.wy j ≠ 0 := fun r hr => by
    have h0 := hr
    unfold doorsAt at hr
    split at hr
    · rw [List.mem_filter] at hr
      obtain ⟨h1, h2⟩ := rows_sub _ _ r hr.1
      obtain ⟨j, hj, rfl | ⟨rfl, w⟩⟩ := c.root_mem h1
      · simp [rDown] at hr
      · exact ⟨j, hj, rfl, h2, w⟩
    · simp at hr
  refine ⟨fun d hd => ?_, ?_⟩
  · rw [sort_mem] at hd
    obtain ⟨r, hr, rfl⟩ := List.mem_map.mp hd
    obtain ⟨j, hj, rfl, _⟩ := sub r hr
    rfl
  · constructor
    · intro h
      by_cases w : c.wy k = 0
      · exact w
      · exfalso
        have hm : c.rOwn k ∈ doorsAt c.zone0.rows [c.wd k] (c.house k) := by
          unfold doorsAt
          have : c.house k = [c.wd k, sOwn] := by unfold house; rw [if_neg w]
          rw [this]
          rw [if_pos (by simp)]
          rw [List.mem_filter]
          refine ⟨?_, by simp [rOwn, sDoor]⟩
          unfold rowsAt
          rw [List.mem_filter]
          refine ⟨List.mem_flatMap.mpr ⟨k, List.mem_range.mpr hk, by simp [rootK, w]⟩, by simp [rOwn]⟩
        have : strOf (c.rOwn k) ∈ sortStr ((doorsAt c.zone0.rows [c.wd k] (c.house k)).map strOf) := (sort_mem _ _).mpr (List.mem_map_of_mem hm)
        rw [h] at this
        simp at this
    · intro w
      have : doorsAt c.zone0.rows [c.wd k] (c.house k) = [] := by
        rw [List.eq_nil_iff_forall_not_mem]
        intro r hr
        obtain ⟨j, hj, rfl, h, _⟩ := sub r hr
        unfold house at h
        rw [if_pos w] at h
        simp [rOwn, keeper, sOwn, sKeep] at h
      rw [this]
      simp [sortStr]
theorem cutsK_0 (c : Cfg) (x : SCut) : x ∈ CHT.cutsK (kpL c.LL) ([], sHere) ↔ ∃ k, k < c.m ∧ x = c.cut k := by
  have e : kpZ c.LL sHere [] = some c.zone0 := (c.kp_here _ _ _).mpr ⟨rfl, .inl ⟨rfl, rfl⟩⟩
  have e2 : CHT.cutsK (kpL c.LL) ([], sHere) = (ownC [] c.zone0.rows).map (cutA c.zone0.rows) := by
    unfold CHT.cutsK kpL
    simp only [e, Option.map_some]
    rfl
  rw [e2, List.mem_map]
  constructor
  · rintro ⟨u, hu, rfl⟩
    unfold ownC at hu
    have := (List.mem_filter.mp hu).1
    rw [downs_0] at this
    obtain ⟨k, hk, rfl⟩ := List.mem_map.mp this
    exact ⟨k, List.mem_range.mp hk, rfl⟩
  · rintro ⟨k, hk, rfl⟩
    refine ⟨[c.wd k], ?_, rfl⟩
    unfold ownC
    rw [List.mem_filter, downs_0]
    refine ⟨List.mem_map.mpr ⟨k, List.mem_range.mpr hk, rfl⟩, decide_eq_true (c.cut0 hk [])⟩
theorem cutsK_k (c : Cfg) {k : Nat} (hk : k < c.m) : CHT.cutsK (kpL c.LL) ([c.wd k], sHere) = [] := by
  have e : kpZ c.LL sHere [c.wd k] = some (c.zoneK k) := (c.kp_here _ _ _).mpr ⟨rfl, .inr ⟨k, hk, rfl, rfl⟩⟩
  unfold CHT.cutsK kpL
  simp only [e, Option.map_some]
  show (ownC [c.wd k] (c.rowsK k)).map _ = []
  unfold ownC
  rw [downs_k]
  rfl
end Cfg
namespace Cfg
inductive LK (c : Cfg) : Nat → Prop
  | one {a : Nat} : c.wy a = 1 → LK c a
  | step {a : Nat} : c.wy a = 0 ∨ c.wy a = 3 → LK c (c.nx a) → LK c a
/-- which names come to a door -/
def Has (c : Cfg) (k : Nat) : Prop := c.wy k ≠ 0 ∨ c.LK (c.nx k)
abbrev Fs := List (List Str × Str)
/-- what stands among the charges -/
def Ent (c : Cfg) (e : List Str × Str) : Prop := e = ([], sHere) ∨ ∃ k, k < c.m ∧ e = ([c.wd k], sHere) ∧ c.Has k
theorem charge_keep (c : Cfg) {F : Fs} (h : CHT.Hd sHere F) (hE : ∀ e ∈ F, c.Ent e) {k : Nat} (hk : k < c.m) (x : Str) :
    (([c.wd k], sHere) ∈ F ∧ CHT.charge sHere F [c.wd k, x] = ([c.wd k], sHere)) ∨ (([c.wd k], sHere) ∉ F ∧ CHT.charge sHere F [c.wd k, x] = ([], sHere)) := by
  have pre : ∀ j, j < c.m → [c.wd j] <+: [c.wd k, x] → j = k := fun j hj ⟨t, ht⟩ => c.wd_inj hj hk (by simpa using (List.cons.inj ht).1)
  by_cases hm : ([c.wd k], sHere) ∈ F
  · refine .inl ⟨hm, CHT.charge_char h hm ⟨[x], rfl⟩ fun o ho p => ?_⟩
    rcases hE o ho with rfl | ⟨j, hj, rfl, _⟩ <;> simp
  · refine .inr ⟨hm, CHT.charge_char h (CHT.hd_mem h) List.nil_prefix fun o ho p => ?_⟩
    rcases hE o ho with rfl | ⟨j, hj, rfl, _⟩
    · simp
    · have := pre j hj p
      subst this
      exact absurd ho hm
theorem reply_in (c : Cfg) {F : Fs} {k : Nat} (hk : k < c.m) {n : List Str} (e : CHT.charge sHere F n = ([c.wd k], sHere)) (q : Str) : replyO c.LL sHere F n q = some (toldO [c.wd k] c.l (c.rowsK k) n q) := by
  unfold replyO
  rw [e]
  simp only [(c.kp_here sHere [c.wd k] _).mpr ⟨rfl, .inr ⟨k, hk, rfl, rfl⟩⟩, Option.map_some]
  rfl
theorem reply_out (c : Cfg) {F : Fs} {k : Nat} (hk : k < c.m) {t : List Str} (e : CHT.charge sHere F (c.wd k :: t) = ([], sHere)) (q : Str) : ∃ ds l, replyO c.LL sHere F (c.wd k :: t) q = some (.down [c.wd k] (c.house k) ds l) := by
  unfold replyO
  rw [e]
  simp only [(c.kp_here sHere [] _).mpr ⟨rfl, .inl ⟨rfl, rfl⟩⟩, Option.map_some]
  have h1 := c.cut0 hk t
  have h2 : toldO c.zone0.top c.zone0.life c.zone0.rows (c.wd k :: t) q = toldDown c.zone0.rows [c.wd k] (c.rDown k) := by
    unfold toldO
    have : c.zone0.top = [] := rfl
    rw [this, h1]
    simp only [c.down0 hk]
  rw [h2]
  exact ⟨_, _, rfl⟩
theorem rep_keep (c : Cfg) {F : Fs} (h : CHT.Hd sHere F) (hE : ∀ e ∈ F, c.Ent e) {k : Nat} (hk : k < c.m) :
    (([c.wd k], sHere) ∈ F ∧ CHT.rep (kpL c.LL) sHere F (c.keeper k) = some (if c.wy k < 2 then .rows [sHere] else if c.wy k = 3 then .els (c.keeper (c.nx k)) else .oth)) ∨ (([c.wd k], sHere) ∉ F ∧ ∃ x, CHT.rep (kpL c.LL) sHere F (c.keeper k) = some (.down x)) := by
  rw [rep_reply]
  rcases c.charge_keep h hE hk sKeep with ⟨h1, h2⟩ | ⟨h1, h2⟩
  · refine .inl ⟨h1, ?_⟩
    have := c.reply_in hk h2 sDoor
    have e := c.tk_keep k
    unfold keeper at e ⊢
    rw [this, e]
    split
    · rfl
    · split <;> rfl
  · refine .inr ⟨h1, ?_⟩
    obtain ⟨ds, l, e⟩ := c.reply_out hk h2 sDoor
    unfold keeper
    rw [e]
    exact ⟨_, rfl⟩
theorem keeper_inj (c : Cfg) {i j : Nat} (hi : i < c.m) (hj : j < c.m) (e : c.keeper i = c.keeper j) : i = j := c.wd_inj hi hj (by simpa [keeper] using e)
theorem lead_LK (c : Cfg) {F : Fs} (h : CHT.Hd sHere F) (hE : ∀ e ∈ F, c.Ent e) {n : List Str} {vs : List Str} (l : CHT.Lead (CHT.rep (kpL c.LL) sHere F) n vs) : ∀ a, a < c.m → n = c.keeper a → c.LK a ∧ vs = [sHere] := by
  have hh : ∀ a, a < c.m → ([c.wd a], sHere) ∈ F → c.Has a := fun a ha q => by
    rcases hE _ q with w | ⟨j, hj, w, hs⟩
    · simp at w
    · have : c.wd a = c.wd j := by simpa using w
      rw [c.wd_inj ha hj this]
      exact hs
  induction l with
  | rows e =>
    rintro a ha rfl
    rcases c.rep_keep h hE ha with ⟨h1, h2⟩ | ⟨h1, x, h2⟩
    · rw [h2] at e
      by_cases w : c.wy a < 2
      · rw [if_pos w] at e
        cases e
        refine ⟨?_, rfl⟩
        by_cases w1 : c.wy a = 1
        · exact .one w1
        · have w0 : c.wy a = 0 := by omega
          rcases hh a ha h1 with q | q
          · exact absurd w0 q
          · exact .step (.inl w0) q
      · rw [if_neg w] at e
        split at e <;> cases e
    · rw [h2] at e; cases e
  | els e _ ih =>
    rintro a ha rfl
    rcases c.rep_keep h hE ha with ⟨h1, h2⟩ | ⟨h1, x, h2⟩
    · rw [h2] at e
      by_cases w : c.wy a < 2
      · rw [if_pos w] at e; cases e
      · rw [if_neg w] at e
        split at e
        · rename_i w3
          cases e
          obtain ⟨i1, i2⟩ := ih _ (c.nx_lt ha) rfl
          exact ⟨.step (.inr w3) i1, i2⟩
        · cases e
    · rw [h2] at e; cases e
theorem ents (c : Cfg) {F : Fs} (i : CHT.Inv (kpL c.LL) sHere F) : ∀ e ∈ F, c.Ent e := by
  have key : ∀ k, ∀ e ∈ F.take k, c.Ent e := by
    intro k
    induction k with
    | zero => intro e he; simp at he
    | succ k ih =>
      intro e he
      by_cases hl : k < F.length
      · rw [List.take_succ, List.getElem?_eq_getElem hl] at he
        rcases List.mem_append.mp he with he | he
        · exact ih e he
        · simp at he
          have he' : F[k]? = some e := by rw [List.getElem?_eq_getElem hl, he]
          by_cases h0 : k = 0
          · subst h0
            have := i.hd
            rw [List.head?_eq_getElem?, he'] at this
            cases this
            exact .inl rfl
          · obtain ⟨x, hx, u, hu, e1, e2⟩ := i.just k e he' h0
            have hd := i.toHd.take h0
            rcases ih x hx with rfl | ⟨j, hj, rfl, _⟩
            · obtain ⟨j, hj, rfl⟩ := (c.cutsK_0 u).mp hu
              rw [c.cut_nm] at e1
              obtain ⟨d1, d2⟩ := c.cut_doors hj
              unfold CHT.doorsV at e2
              split at e2
              · rename_i w
                have : e.2 = sHere := d1 _ (List.mem_of_head? e2)
                refine .inr ⟨j, hj, ?_, .inl fun z => w (d2.mpr z)⟩
                rw [e1, ← this]
              · rename_i w
                have w0 := d2.mp (by simpa using w)
                rw [c.cut_house hj] at e2
                have hh : c.house j = c.keeper (c.nx j) := by unfold house; rw [if_pos w0]
                rw [hh] at e2
                cases q : CHT.leadsV (CHT.rep (kpL c.LL) sHere (F.take k)) (c.keeper (c.nx j)) with
                | nil => rw [q] at e2; cases e2
                | cons v vs =>
                  obtain ⟨l1, l2⟩ := c.lead_LK hd ih (CHT.leadsV_cons q) _ (c.nx_lt hj) rfl
                  rw [q, l2] at e2
                  simp at e2
                  refine .inr ⟨j, hj, ?_, .inr l1⟩
                  rw [e1, e2]
            · rw [c.cutsK_k hj] at hu
              simp at hu
      · rw [List.take_of_length_le (by omega)] at he
        rw [List.take_of_length_le (by omega)] at ih
        exact ih e he
  intro e he
  exact key F.length e (by rw [List.take_length]; exact he)
theorem has_in (c : Cfg) {F : Fs} (g : CHT.Chg (kpL c.LL) sHere F) {k : Nat} (hk : k < c.m) : ([c.wd k], sHere) ∈ F ↔ c.Has k := by
  have hE := c.ents g.toInv
  have all : ∀ j, j < c.m → ([c.wd j], sHere) ∈ F ∨ CHT.doorsV (kpL c.LL) sHere F (c.cut j) = [] := fun j hj => by
    rcases g.all _ (CHT.hd_mem g.toHd) (c.cut j) ((c.cutsK_0 _).mpr ⟨j, hj, rfl⟩) with ⟨d, hd⟩ | h
    · rw [c.cut_nm] at hd
      rcases hE _ hd with w | ⟨i, hi, w, _⟩
      · simp at w
      · simp only [Prod.mk.injEq] at w
        rw [w.2] at hd
        exact .inl hd
    · exact .inr h
  have far : ∀ j, j < c.m → c.wy j ≠ 0 → ([c.wd j], sHere) ∈ F := fun j hj w => by
    rcases all j hj with h | h
    · exact h
    · exfalso
      unfold CHT.doorsV at h
      have hd := (c.cut_doors hj).2
      rw [if_pos (fun z => w (hd.mp z))] at h
      exact w (hd.mp h)
  have near : ∀ j, j < c.m → ∀ vs, CHT.Lead (CHT.rep (kpL c.LL) sHere F) (c.keeper (c.nx j)) vs → vs ≠ [] → c.wy j = 0 → ([c.wd j], sHere) ∈ F := fun j hj vs l ne w => by
    rcases all j hj with h | h
    · exact h
    · exfalso
      unfold CHT.doorsV at h
      have hd := (c.cut_doors hj).2
      rw [if_neg (fun z => z (hd.mpr w)), c.cut_house hj] at h
      have hh : c.house j = c.keeper (c.nx j) := by unfold house; rw [if_pos w]
      rw [hh, CHT.leadsV_of l] at h
      exact ne h
  have lead : ∀ a, c.LK a → a < c.m → CHT.Lead (CHT.rep (kpL c.LL) sHere F) (c.keeper a) [sHere] := by
    intro a l
    induction l with
    | @one a w =>
      intro ha
      rcases c.rep_keep g.toHd hE ha with ⟨h1, h2⟩ | ⟨h1, _⟩
      · rw [if_pos (by omega)] at h2
        exact .rows h2
      · exact absurd (far a ha (by omega)) h1
    | @step a w _ ih =>
      intro ha
      have li := ih (c.nx_lt ha)
      rcases w with w | w
      · have hin := near a ha _ li (by simp) w
        rcases c.rep_keep g.toHd hE ha with ⟨h1, h2⟩ | ⟨h1, _⟩
        · rw [if_pos (by omega)] at h2
          exact .rows h2
        · exact absurd hin h1
      · rcases c.rep_keep g.toHd hE ha with ⟨h1, h2⟩ | ⟨h1, _⟩
        · rw [if_neg (by omega), if_pos w] at h2
          exact .els h2 li
        · exact absurd (far a ha (by omega)) h1
  constructor
  · intro h
    rcases hE _ h with w | ⟨j, hj, w, hs⟩
    · simp at w
    · have : c.wd k = c.wd j := by simpa using w
      rw [c.wd_inj hk hj this]
      exact hs
  · rintro (h | h)
    · exact far k hk h
    · by_cases w : c.wy k = 0
      · exact near k hk _ (lead _ h (c.nx_lt hk)) (by simp) w
      · exact far k hk w
/-! the law's own walk -/
inductive RK (c : Cfg) : Nat → Nat → Prop
  | one {a : Nat} : c.wy a = 0 ∨ c.wy a = 3 → RK c a (c.nx a)
  | step {a b : Nat} : c.wy a = 0 ∨ c.wy a = 3 → RK c (c.nx a) b → RK c a b
theorem RK.snoc {c : Cfg} {a b : Nat} (r : c.RK a b) (w : c.wy b = 0 ∨ c.wy b = 3) : c.RK a (c.nx b) := by
  induction r with
  | one w0 => exact .step w0 (.one w)
  | step w0 _ ih => exact .step w0 (ih w)
theorem LK.no_ring' {c : Cfg} {a : Nat} (l : c.LK a) : ∀ b, c.RK a b → b = a → False := by
  induction l with
  | one w =>
    intro b r _
    cases r with
    | one w' => omega
    | step w' _ => omega
  | @step a w _ ih =>
    intro b r e
    cases r with
    | one _ =>
      have r0 : c.RK a (c.nx a) := .one w
      exact ih (c.nx a) (by rw [e]; rw [e] at r0; exact r0) rfl
    | step _ r =>
      subst e
      exact ih _ (r.snoc w) rfl
theorem LK.back {c : Cfg} {a : Nat} (l : c.LK a) (w : c.wy a = 0 ∨ c.wy a = 3) : c.LK (c.nx a) := by
  cases l with
  | one h => omega
  | step _ l => exact l
theorem nat_nin (n : Nat) (l : List Nat) : cmpD .nin (.int (n : Int)) (.list (l.map fun x : Nat => PyData.int (x : Int))) = .ok (!decide (n ∈ l)) := by
  have h := encI.nin (by decide) (n : Int) (l.map fun x : Nat => (x : Int))
  rw [List.map_map] at h
  have e : ((fun x => PyData.int x) ∘ fun x : Nat => (x : Int)) = fun x : Nat => PyData.int (x : Int) := rfl
  rw [e] at h
  rw [h]
  congr 2
  rw [Bool.eq_iff_iff]
  simp only [decide_eq_true_eq, List.mem_map]
  exact ⟨fun ⟨a, h1, h2⟩ => by have : a = n := by omega
                               rw [← this]; exact h1, fun h => ⟨n, h, rfl⟩⟩
open Classical in
theorem r_law_leads (c : Cfg) (a0 : Nat) (ha0 : a0 < c.m) : f_l_leads [c.ND, c.VD, .int (a0 : Int)] = .ok (.bool (decide (c.LK a0))) := by
  have hm := c.hm
  let st : List Nat × Nat → En := fun b => [.fz c.ND, .fz c.VD, .fz (.int (b.2 : Int)), .ow (b.1.map fun x : Nat => PyData.int (x : Int))]
  let QQ : Out → Prop := fun o => o = .ret (.bool (decide (c.LK a0))) ∨ ((∃ b, o = .nx (st b)) ∧ ¬ c.LK a0)
  have hw : QQ (exS Q_l_leads w0_l_leads (st ([], a0))) := by
    refine whil_st st (fun b => b.1.Nodup ∧ (∀ x ∈ b.1, x < c.m) ∧ b.2 < c.m ∧ (c.LK a0 ↔ c.LK b.2) ∧ ∀ x ∈ b.1, c.RK x b.2) (fun b => c.m + 1 - b.1.length) QQ ([], a0) ⟨by simp, by simp, ha0, Iff.rfl, by simp⟩ rfl (show c.m + 1 - 0 < 1000 from by omega) ?_
    rintro ⟨gone, a⟩ ⟨i1, i2, i3, i4, i5⟩
    simp only at i1 i2 i3 i4 i5
    have cn := nat_nin a gone
    have lg : gone.length ≤ c.m := by
      have := CHT.nodup_len gone (List.range c.m) i1 fun x hx => List.mem_range.mpr (i2 x hx)
      simpa using this
    by_cases hin : a ∈ gone
    · left
      rw [decide_eq_true hin] at cn
      refine ⟨by simp [-List.map_map, st, cn], .inr ⟨⟨_, rfl⟩, fun l => (i4.mp l).no_ring' _ (i5 a hin) rfl⟩⟩
    · right
      rw [decide_eq_false hin] at cn
      have nd' : (gone ++ [a]).Nodup := by
        rw [List.nodup_append]
        refine ⟨i1, by simp, fun x hx b hb => ?_⟩
        rw [List.mem_singleton] at hb
        subst hb
        exact fun z => hin (z ▸ hx)
      have lg' : (gone ++ [a]).length ≤ c.m := by
        have := CHT.nodup_len (gone ++ [a]) (List.range c.m) nd' fun x hx => by
          rcases List.mem_append.mp hx with hx | hx
          · exact List.mem_range.mpr (i2 x hx)
          · rw [List.mem_singleton] at hx; subst hx; exact List.mem_range.mpr i3
        simpa using this
      simp only [List.length_append, List.length_singleton] at lg'
      have l1 : gone.length < 1000000 := by omega
      have a2 := c.ixV i3
      have a3 := c.ixN i3
      refine ⟨by simp [-List.map_map, st, cn], ?_⟩
      have w3 := c.wy_le i3
      by_cases w1 : c.wy a = 1
      · have w1' : (c.wy a : Int) = 1 := by omega
        refine .inr (.inl ⟨.bool true, by simp [-ixD, -List.map_map, st, v0_l_leads, a2, a3, w1', l1], .inl ?_⟩)
        rw [decide_eq_true (i4.mpr (.one w1))]
      · by_cases w2 : c.wy a = 2
        · have w2' : (c.wy a : Int) = 2 := by omega
          refine .inr (.inl ⟨.bool false, by simp [-ixD, -List.map_map, st, v0_l_leads, a2, a3, w2', l1], .inl ?_⟩)
          rw [decide_eq_false]
          intro l
          have l := i4.mp l
          cases l with
          | one h => omega
          | step h _ => omega
        · have w0 : c.wy a = 0 ∨ c.wy a = 3 := by omega
          have w1' : ¬ (c.wy a : Int) = 1 := by omega
          have w2' : ¬ (c.wy a : Int) = 2 := by omega
          refine .inl ⟨(gone ++ [a], c.nx a), [.fz c.ND, .fz c.VD, .fz (.int (c.nx a : Int)), .ow ((gone ++ [a]).map fun x : Nat => PyData.int (x : Int))], .inl ?_, rfl, ⟨nd', fun x hx => ?_, c.nx_lt i3, ?_, fun x hx => ?_⟩, ?_⟩
          · simp [-ixD, -List.map_map, st, v0_l_leads, a2, a3, w1', w2', l1]
          · rcases List.mem_append.mp hx with hx | hx
            · exact i2 x hx
            · rw [List.mem_singleton] at hx; subst hx; exact i3
          · rw [i4]
            exact ⟨fun l => l.back w0, fun l => .step w0 l⟩
          · rcases List.mem_append.mp hx with hx | hx
            · exact (i5 x hx).snoc w0
            · rw [List.mem_singleton] at hx; subst hx; exact .one w0
          · simp only [List.length_append, List.length_singleton]
            omega
  rcases hw with hw | ⟨⟨b, hw⟩, e⟩
  · have : exS Q_l_leads w0_l_leads [.fz c.ND, .fz c.VD, .fz (.int (a0 : Int)), .ow []] = _ := hw
    simp [f_l_leads, b_l_leads, this]
  · have : exS Q_l_leads w0_l_leads [.fz c.ND, .fz c.VD, .fz (.int (a0 : Int)), .ow []] = _ := hw
    simp [f_l_leads, b_l_leads, this, e, st]
end Cfg
namespace Cfg
def why (v : Nat) : Str := if v = 3 then Str.ofString "else" else Str.ofString "door"
theorem why_ix (v : Nat) (h : v ≤ 3) : ixD (.list [.str (Str.ofString "door"), .str (Str.ofString "door"), .str (Str.ofString "door"), .str (Str.ofString "else")]) (.int (v : Int)) = .ok (.str (why v)) := by
  have : v = 0 ∨ v = 1 ∨ v = 2 ∨ v = 3 := by omega
  rcases this with rfl | rfl | rfl | rfl <;> rfl
def keepW (c : Cfg) (y : Str) (a : Nat) : Wai := ⟨y, c.keeper a, sDoor⟩
def hostW (c : Cfg) (k : Nat) : Wai := ⟨Str.ofString "asked", [c.wd k, sHost], sMark⟩
theorem step_keep (c : Cfg) {F : Fs} (g : CHT.Chg (kpL c.LL) sHere F) {a : Nat} (ha : a < c.m) (nl : ¬ c.LK a) :
    (c.wy a = 2 → stepW (replyO c.LL sHere F (c.keeper a) sDoor) sDoor = none ∧ tagR (replyO c.LL sHere F (c.keeper a) sDoor) = Str.ofString "none") ∧
    (c.wy a ≠ 2 → stepW (replyO c.LL sHere F (c.keeper a) sDoor) sDoor = some (c.keepW (why (c.wy a)) (c.nx a)) ∧ ¬ c.LK (c.nx a)) := by
  have hE := c.ents g.toInv
  have hs := c.has_in g ha
  have w3 := c.wy_le ha
  have n1 : c.wy a ≠ 1 := fun w => nl (.one w)
  rcases c.charge_keep g.toHd hE ha sKeep with ⟨h1, h2⟩ | ⟨h1, h2⟩
  · have e := c.reply_in ha h2 sDoor
    have e2 := c.tk_keep a
    have e3 : replyO c.LL sHere F (c.keeper a) sDoor = some (if c.wy a < 2 then .rows [sHere] 5 else if c.wy a = 3 then .els (c.keeper (c.nx a)) 5 else .non c.l) := by
      unfold keeper at e2 ⊢
      rw [e, e2]
    rw [e3]
    have n0 : c.wy a ≠ 0 := fun w => by
      rcases hs.mp h1 with q | q
      · exact q w
      · exact nl (.step (.inl w) q)
    refine ⟨fun w => ?_, fun w => ?_⟩
    · rw [if_neg (by omega), if_neg (by omega)]
      exact ⟨rfl, rfl⟩
    · have w3 : c.wy a = 3 := by omega
      rw [if_neg (by omega), if_pos w3]
      refine ⟨?_, fun l => nl (.step (.inr w3) l)⟩
      rw [w3]
      rfl
  · have n0 : c.wy a = 0 := by
      by_cases w : c.wy a = 0
      · exact w
      · exact absurd (hs.mpr (.inl w)) h1
    obtain ⟨ds, l, e⟩ := c.reply_out ha h2 sDoor
    have e3 : replyO c.LL sHere F (c.keeper a) sDoor = some (.down [c.wd a] (c.house a) ds l) := e
    rw [e3]
    refine ⟨fun w => by omega, fun w => ⟨?_, fun q => nl (.step (.inl n0) q)⟩⟩
    have hh : c.house a = c.keeper (c.nx a) := by unfold house; rw [if_pos n0]
    rw [hh, n0]
    rfl
theorem due_walk (c : Cfg) {F : Fs} (g : CHT.Chg (kpL c.LL) sHere F) {k : Nat} (hk : k < c.m) (w0 : c.wy k = 0) (nl : ¬ c.LK (c.nx k)) :
    ∃ o, TruthR (replyO c.LL sHere F) [] (c.hostW k) o ∧ ((∃ d, exS Q_l_due w0_l_due [.fz c.WD, .fz c.ND, .fz c.VD, .fz (.int (k : Int)), .ow [waiD (c.hostW k)], .ow [], .fz (.str sDoor), .fz (.int (c.nx k : Int))] = .ret d ∧ d = outD o) ∨
      ∃ W y a gone, exS Q_l_due w0_l_due [.fz c.WD, .fz c.ND, .fz c.VD, .fz (.int (k : Int)), .ow [waiD (c.hostW k)], .ow [], .fz (.str sDoor), .fz (.int (c.nx k : Int))] = .nx [.fz c.WD, .fz c.ND, .fz c.VD, .fz (.int (k : Int)), .ow (W.map waiD), .ow gone, .fz (.str y), .fz (.int ((a : Nat) : Int))] ∧ a < c.m ∧ W.length ≤ 100 ∧ o = (Str.ofString "ring", [], W ++ [c.keepW y a])) := by
  have hm := c.hm
  have hE := c.ents g.toInv
  let st : List Wai × List Nat × Str × Nat → En := fun b => [.fz c.WD, .fz c.ND, .fz c.VD, .fz (.int (k : Int)), .ow (b.1.map waiD), .ow (b.2.1.map fun x : Nat => PyData.int (x : Int)), .fz (.str b.2.2.1), .fz (.int (b.2.2.2 : Int))]
  let QQ : Out → Prop := fun z => ∃ o, TruthR (replyO c.LL sHere F) [] (c.hostW k) o ∧ ((∃ d, z = .ret d ∧ d = outD o) ∨ ∃ W y a gone, z = .nx [.fz c.WD, .fz c.ND, .fz c.VD, .fz (.int (k : Int)), .ow (W.map waiD), .ow gone, .fz (.str y), .fz (.int ((a : Nat) : Int))] ∧ a < c.m ∧ W.length ≤ 100 ∧ o = (Str.ofString "ring", [], W ++ [c.keepW y a]))
  have hw : QQ (exS Q_l_due w0_l_due (st ([c.hostW k], [], sDoor, c.nx k))) := by
    refine whil_st st (fun b => b.2.1.Nodup ∧ (∀ x ∈ b.2.1, x < c.m) ∧ b.2.2.2 < c.m ∧ ¬ c.LK b.2.2.2 ∧ b.1.length = b.2.1.length + 1 ∧ (∀ x, x < c.m → ∀ y, b.1.any (sameQ (c.keepW y x)) = decide (x ∈ b.2.1)) ∧ b.1.any isDoor = decide (b.2.1 ≠ []) ∧ (b.2.1 = [] → b.2.2.1 = sDoor) ∧
      ∀ o, (if b.2.2.2 ∈ b.2.1 then o = (Str.ofString "ring", [], b.1 ++ [c.keepW b.2.2.1 b.2.2.2]) else TruthR (replyO c.LL sHere F) b.1 (c.keepW b.2.2.1 b.2.2.2) o) → TruthR (replyO c.LL sHere F) [] (c.hostW k) o)
      (fun b => c.m + 1 - b.2.1.length) QQ ([c.hostW k], [], sDoor, c.nx k) ⟨by simp, by simp, c.nx_lt hk, nl, rfl, fun x hx y => ?_, ?_, fun _ => rfl, fun o ho => ?_⟩ rfl (show c.m + 1 - 0 < 1000 from by omega) ?_
    · simp [sameQ, hostW, keepW, keeper, sHost, sKeep]
    · simp [isDoor, hostW]
    · rw [if_neg (by simp)] at ho
      rcases c.charge_keep g.toHd hE hk sHost with ⟨h1, h2⟩ | ⟨h1, h2⟩
      · exfalso
        rcases (c.has_in g hk).mp h1 with q | q
        · exact q w0
        · exact nl q
      · obtain ⟨ds, l, e⟩ := c.reply_out hk h2 sMark
        refine .go (s := c.keepW sDoor (c.nx k)) ?_ ?_ ho
        · show stepW (replyO c.LL sHere F [c.wd k, sHost] sMark) sMark = _
          rw [e]
          have hh : c.house k = c.keeper (c.nx k) := by unfold house; rw [if_pos w0]
          rw [hh]
          rfl
        · simp [sameQ, hostW, keepW, keeper, sHost, sKeep]
    · rintro ⟨W, gone, y, a⟩ ⟨i1, i2, i3, i4, i5, i6, i7, i8, i9⟩
      simp only at i1 i2 i3 i4 i5 i6 i7 i8 i9
      have cn := nat_nin a gone
      have lg : gone.length ≤ c.m := by
        have := CHT.nodup_len gone (List.range c.m) i1 fun x hx => List.mem_range.mpr (i2 x hx)
        simpa using this
      by_cases hin : a ∈ gone
      · left
        rw [decide_eq_true hin] at cn
        exact ⟨by simp [-List.map_map, st, cn], _, i9 _ (by rw [if_pos hin]), .inr ⟨W, y, a, _, rfl, i3, by omega, rfl⟩⟩
      · right
        rw [decide_eq_false hin] at cn
        have i9 : ∀ o, TruthR (replyO c.LL sHere F) W (c.keepW y a) o → TruthR (replyO c.LL sHere F) [] (c.hostW k) o := fun o h => i9 o (by rw [if_neg hin]; exact h)
        have nd' : (gone ++ [a]).Nodup := by
          rw [List.nodup_append]
          refine ⟨i1, by simp, fun x hx b hb => ?_⟩
          rw [List.mem_singleton] at hb
          subst hb
          exact fun z => hin (z ▸ hx)
        have in' : ∀ x ∈ gone ++ [a], x < c.m := fun x hx => by
          rcases List.mem_append.mp hx with hx | hx
          · exact i2 x hx
          · rw [List.mem_singleton] at hx; subst hx; exact i3
        have lg' : (gone ++ [a]).length ≤ c.m := by
          have := CHT.nodup_len (gone ++ [a]) (List.range c.m) nd' fun x hx => List.mem_range.mpr (in' x hx)
          simpa using this
        simp only [List.length_append, List.length_singleton] at lg'
        have l1 : gone.length < 1000000 := by omega
        have l2 : W.length < 1000000 := by omega
        have a1 := c.ixW (k := a) (by omega)
        have a2 := c.ixV i3
        have a3 := c.ixN i3
        have w3 := c.wy_le i3
        obtain ⟨s1, s2⟩ := c.step_keep g i3 i4
        have ew : (.tuple [.str y, .tuple [.str (c.wd a), .str (Str.ofString "keeper")], .str (Str.ofString "door")] : Dat) = waiD (c.keepW y a) := rfl
        refine ⟨by simp [-List.map_map, st, cn], ?_⟩
        by_cases w2 : c.wy a = 2
        · have w2' : (c.wy a : Int) = 2 := by omega
          obtain ⟨t1, t2⟩ := s1 w2
          have hr := i9 _ (.stop (w := c.keepW y a) t1)
          have hd : (W ++ [c.keepW y a]).any isDoor = true := by
            rw [List.any_append, i7]
            by_cases hg : gone = []
            · rw [i8 hg]; simp [isDoor, keepW, hg]
            · simp [hg]
          have eo : endO (replyO c.LL sHere F (c.keepW y a).name (c.keepW y a).kind) (W ++ [c.keepW y a]) = (Str.ofString "lost", [], W ++ [c.keepW y a]) := by
            unfold endO
            rw [if_pos (.inr hd)]
          rw [eo] at hr
          refine .inr (.inl ⟨outD (Str.ofString "lost", [], W ++ [c.keepW y a]), ?_, _, hr, .inl ⟨_, rfl, rfl⟩⟩)
          simp [-ixD, -List.map_map, st, v0_l_due, a1, a2, a3, w2', l1, l2, ew, outD]
        · have w2' : ¬ (c.wy a : Int) = 2 := by omega
          obtain ⟨t1, t2⟩ := s2 w2
          have wi := why_ix (c.wy a) w3
          refine .inl ⟨(W ++ [c.keepW y a], gone ++ [a], why (c.wy a), c.nx a), [.fz c.WD, .fz c.ND, .fz c.VD, .fz (.int (k : Int)), .ow ((W ++ [c.keepW y a]).map waiD), .ow ((gone ++ [a]).map fun x : Nat => PyData.int (x : Int)), .fz (.str (why (c.wy a))), .fz (.int (c.nx a : Int))], .inl ?_, rfl, ⟨nd', in', c.nx_lt i3, t2, by simp [i5], fun x hx z => ?_, ?_, fun h => by simp at h, fun o ho => ?_⟩, ?_⟩
          · simp [-ixD, -List.map_map, st, v0_l_due, a1, a2, a3, w2', l1, l2, ew, wi]
          · rw [List.any_append, i6 x hx z]
            rw [Bool.eq_iff_iff]
            simp only [Bool.or_eq_true, decide_eq_true_eq, List.any_cons, List.any_nil, Bool.or_false, List.mem_append, List.mem_singleton]
            refine or_congr Iff.rfl ?_
            simp only [sameQ, keepW, decide_true, Bool.and_true, decide_eq_true_eq]
            exact ⟨fun e => (c.keeper_inj i3 hx (of_decide_eq_true e)).symm, fun e => by rw [e]; simp⟩
          · rw [List.any_append, i7]
            by_cases hg : gone = []
            · rw [i8 hg]; simp [isDoor, keepW, hg]
            · simp [hg]
          · simp only at ho
            have q := i6 (c.nx a) (c.nx_lt i3) (why (c.wy a))
            have q2 : (W ++ [c.keepW y a]).any (sameQ (c.keepW (why (c.wy a)) (c.nx a))) = decide (c.nx a ∈ gone ++ [a]) := by
              rw [List.any_append, q]
              rw [Bool.eq_iff_iff]
              simp only [Bool.or_eq_true, decide_eq_true_eq, List.any_cons, List.any_nil, Bool.or_false, List.mem_append, List.mem_singleton]
              refine or_congr Iff.rfl ?_
              simp only [sameQ, keepW, decide_true, Bool.and_true, decide_eq_true_eq]
              exact ⟨fun e => (c.keeper_inj i3 (c.nx_lt i3) (of_decide_eq_true e)).symm, fun e => by rw [e]; simp⟩
            by_cases hn : c.nx a ∈ gone ++ [a]
            · rw [if_pos hn] at ho
              rw [decide_eq_true hn] at q2
              subst ho
              exact i9 _ (.ring (w := c.keepW y a) t1 q2)
            · rw [if_neg hn] at ho
              rw [decide_eq_false hn] at q2
              exact i9 _ (.go (w := c.keepW y a) t1 q2 ho)
          · simp only [List.length_append, List.length_singleton]
            omega
  exact hw
theorem r_due (c : Cfg) {F : Fs} (g : CHT.Chg (kpL c.LL) sHere F) {k : Nat} (hk : k < c.m) : ∃ o, TruthR (replyO c.LL sHere F) [] (c.hostW k) o ∧ f_l_due [c.WD, c.ND, c.VD, .int (k : Int)] = .ok (outD o) := by
  have hm := c.hm
  have hE := c.ents g.toInv
  have a1 := c.ixW (k := k) (by omega)
  have a2 := c.ixV hk
  have a3 := c.ixN hk
  have ll := c.r_law_leads _ (c.nx_lt hk)
  have ew : (.tuple [.str (Str.ofString "asked"), .tuple [.str (c.wd k), .str (Str.ofString "host")], .str (Str.ofString "mark")] : Dat) = waiD (c.hostW k) := rfl
  by_cases hs : c.Has k
  · have hin := (c.has_in g hk).mpr hs
    refine ⟨(Str.ofString "rows", [c.wd k], [c.hostW k]), ?_, ?_⟩
    · rcases c.charge_keep g.toHd hE hk sHost with ⟨h1, h2⟩ | ⟨h1, h2⟩
      · have e := c.reply_in hk h2 sMark
        have e2 := c.tk_host k
        have e3 : replyO c.LL sHere F (c.hostW k).name (c.hostW k).kind = some (.rows [c.wd k] 5) := e.trans (by rw [e2])
        have := TruthR.stop (rp := replyO c.LL sHere F) (ws := []) (w := c.hostW k) (by rw [e3]; rfl)
        rw [e3] at this
        have eo : endO (some (.rows [c.wd k] 5)) ([] ++ [c.hostW k]) = (Str.ofString "rows", [c.wd k], [c.hostW k]) := by
          unfold endO
          rw [if_neg (by simp [tagR, isDoor, hostW])]
          rfl
        rw [eo] at this
        exact this
      · exact absurd hin h1
    · by_cases w0 : c.wy k = 0
      · have hl : c.LK (c.nx k) := by rcases hs with q | q; exact absurd w0 q; exact q
        have w0' : (c.wy k : Int) = 0 := by omega
        have ll' : f_l_leads [c.ND, c.VD, .int (c.nx k : Int)] = .ok (.bool true) := by rw [ll]; simp [hl]
        simp [-ixD, f_l_due, b_l_due, a1, a2, a3, w0, w0', ll', ew, outD]
      · have w0' : ¬ (c.wy k : Int) = 0 := by omega
        simp [-ixD, f_l_due, b_l_due, a1, a2, a3, w0, w0', ew, outD]
  · have w0 : c.wy k = 0 := by by_cases w : c.wy k = 0; exact w; exact absurd (.inl w) hs
    have nl : ¬ c.LK (c.nx k) := fun l => hs (.inr l)
    have w0' : (c.wy k : Int) = 0 := by omega
    have ll' : f_l_leads [c.ND, c.VD, .int (c.nx k : Int)] = .ok (.bool false) := by rw [ll]; simp [nl]
    obtain ⟨o, ho, h⟩ := c.due_walk g hk w0 nl
    refine ⟨o, ho, ?_⟩
    rcases h with ⟨d, h, rfl⟩ | ⟨W, y, a, gone, h, ha, hl, rfl⟩
    · simp [-ixD, f_l_due, b_l_due, a1, a2, a3, w0, w0', ll', ew, h]
    · have b1 := c.ixW (k := a) (by omega)
      have l2 : W.length < 1000000 := by omega
      have ew2 : (.tuple [.str y, .tuple [.str (c.wd a), .str (Str.ofString "keeper")], .str (Str.ofString "door")] : Dat) = waiD (c.keepW y a) := rfl
      simp [-ixD, f_l_due, b_l_due, a1, a2, a3, w0, w0', ll', ew, h, b1, l2, ew2, outD]
end Cfg
/-- where the whole's zone is not kept -/
theorem lone {L : List (Str × List Zn)} {root : Str} (h : kpZ L root [] = none) {F : List (List Str × Str)} (g : CHT.Chg (kpL L) root F) (n : List Str) (k : Str) : replyO L root F n k = none := by
  have ce : CHT.cutsK (kpL L) ([], root) = [] := by unfold CHT.cutsK kpL; simp [h]
  have key : ∀ i, ∀ e ∈ F.take i, e = ([], root) := by
    intro i
    induction i with
    | zero => intro e he; simp at he
    | succ i ih =>
      intro e he
      by_cases hl : i < F.length
      · rw [List.take_succ, List.getElem?_eq_getElem hl] at he
        rcases List.mem_append.mp he with he | he
        · exact ih e he
        · simp at he
          have he' : F[i]? = some e := by rw [List.getElem?_eq_getElem hl, he]
          by_cases h0 : i = 0
          · subst h0
            have := g.hd
            rw [List.head?_eq_getElem?, he'] at this
            cases this
            rfl
          · obtain ⟨x, hx, u, hu, _, _⟩ := g.just i e he' h0
            rw [ih x hx, ce] at hu
            simp at hu
      · rw [List.take_of_length_le (by omega)] at he
        rw [List.take_of_length_le (by omega)] at ih
        exact ih e he
  have hc : CHT.charge root F n = ([], root) := key F.length _ (by rw [List.take_length]; exact (CHT.charge_mem g.toHd n).1)
  unfold replyO
  rw [hc]
  simp [h]
theorem lone_truth {L : List (Str × List Zn)} {P : List (List Str)} (gl : GdL L P) {root : Str} (h : kpZ L root [] = none) (n : List Str) (hn : n.length ≤ 900) (k : Str) (k1 : k ≠ Str.ofString "down") (k2 : k ≠ Str.ofString "else") : f_p_truth [hsP L, .str root, nm n, .str k] = .ok (outD (Str.ofString "lost", [], [⟨Str.ofString "asked", n, k⟩])) := by
  obtain ⟨F, o, g, _, ht, e⟩ := r_truth L P gl root n hn k k1 k2
  have hr := lone h g n k
  have h2 := TruthR.stop (rp := replyO L root F) (ws := []) (w := ⟨Str.ofString "asked", n, k⟩) (by simp only [hr]; rfl)
  rw [hr] at h2
  have eo : endO none ([] ++ [(⟨Str.ofString "asked", n, k⟩ : Wai)]) = (Str.ofString "lost", [], [⟨Str.ofString "asked", n, k⟩]) := by unfold endO; rw [if_pos (.inl rfl)]; rfl
  rw [eo] at h2
  rw [e, ht.det h2]
theorem encO : Enc outD 4 := ⟨fun a b => by
    have h1 := encS.lst.eqv a.2.1 b.2.1
    have h2 := encW.lst.eqv a.2.2 b.2.2
    have e : PyData.eqv (outD a) (outD b) = (PyData.eqv (.str a.1) (.str b.1) && (PyData.eqv (.list (a.2.1.map .str)) (.list (b.2.1.map .str)) && (PyData.eqv (.list (a.2.2.map waiD)) (.list (b.2.2.map waiD)) && true))) := rfl
    rw [e, h1, h2, eqv_str]
    obtain ⟨a1, a2, a3⟩ := a
    obtain ⟨b1, b2, b3⟩ := b
    simp only [Prod.mk.injEq, Bool.and_true]
    rw [Bool.eq_iff_iff]
    simp, fun a => by
    have h1 := encS.lst.ndc a.2.1
    have h2 := encW.lst.ndc a.2.2
    have e : ndc (outD a) = (true && (ndc (.list (a.2.1.map .str)) && (ndc (.list (a.2.2.map waiD)) && true))) := rfl
    rw [e, h1, h2]
    rfl, fun a => by
    refine depth_tup _ fun d hd => ?_
    simp only [List.mem_cons, List.not_mem_nil, or_false] at hd
    rcases hd with rfl | rfl | rfl
    · simp [PyData.depth]
    · exact Nat.le_trans (encS.lst.dep a.2.1) (by omega)
    · exact encW.lst.dep a.2.2⟩
theorem ways_ix (p : Int) (h : 0 ≤ p) (h' : p < 5) : ∃ v : Nat, ixD (.list [.int 0, .int 0, .int 1, .int 2, .int 3]) (.int p) = .ok (.int (v : Int)) ∧ v ≤ 3 := by
  have : p = 0 ∨ p = 1 ∨ p = 2 ∨ p = 3 ∨ p = 4 := by omega
  rcases this with rfl | rfl | rfl | rfl | rfl
  · exact ⟨0, rfl, by omega⟩
  · exact ⟨0, rfl, by omega⟩
  · exact ⟨1, rfl, by omega⟩
  · exact ⟨2, rfl, by omega⟩
  · exact ⟨3, rfl, by omega⟩
theorem lc_nat {P : Pg} {own : List Nat} {tg : Tg} {it : It} {tt elt : E} {ρ : En} {α : Type} (e : α → Dat) (ok : Nat → Prop) (xs : List α) (hi : evI P it ρ = .ok (xs.map e)) (hl : xs.length ≤ 1000000)
    (h : ∀ x ∈ xs, ∃ ρ1, setT tg (e x) (unS own ρ) = .ok ρ1 ∧ (ev P tt ρ1 >>= fun t => truD t) = .ok true ∧ ∃ v : Nat, ev P elt ρ1 = .ok (.int (v : Int)) ∧ ok v) :
    ∃ V : List Nat, ev P (.lc own tg it tt elt) ρ = .ok (.list (V.map fun v : Nat => PyData.int (v : Int))) ∧ V.length = xs.length ∧ ∀ v ∈ V, ok v := by
  classical
  have hg : ∀ x, ∃ v : Nat, x ∈ xs → ∃ ρ1, setT tg (e x) (unS own ρ) = .ok ρ1 ∧ (ev P tt ρ1 >>= fun t => truD t) = .ok true ∧ ev P elt ρ1 = .ok (.int (v : Int)) ∧ ok v := fun x => by
    by_cases hx : x ∈ xs
    · obtain ⟨ρ1, a, b, v, c, d⟩ := h x hx
      exact ⟨v, fun _ => ⟨ρ1, a, b, c, d⟩⟩
    · exact ⟨0, fun w => absurd w hx⟩
  have hg := Classical.axiomOfChoice hg
  obtain ⟨g, hg⟩ := hg
  refine ⟨xs.map g, ?_, by simp, fun v hv => ?_⟩
  · rw [List.map_map]
    exact lc_map e (fun x => PyData.int (g x : Int)) xs hi hl fun x hx => by
      obtain ⟨ρ1, a, b, c, _⟩ := hg x hx
      exact ⟨ρ1, a, b, c⟩
  · obtain ⟨x, hx, rfl⟩ := List.mem_map.mp hv
    obtain ⟨_, _, _, _, d⟩ := hg x hx
    exact d
theorem mk_ne : (Str.ofString "mark" ≠ Str.ofString "down") ∧ (Str.ofString "mark" ≠ Str.ofString "else") := by simp
theorem law_loop (ns : List Int) (c : Cfg) : exS Q_law w0_law [.fz (.list (ns.map .int)), .fz (.int c.m), .fz c.ND, .fz c.VD, .fz c.WD, .fz (.int c.l), .un, .un, .un, .un, .un, .un] = .nx [.fz (.list (ns.map .int)), .fz (.int c.m), .fz c.ND, .fz c.VD, .fz c.WD, .fz (.int c.l), .un, .un, .un, .un, .un, .un] := by
  have c9 : f_l_cell_at [.list (ns.map .int), .int 9] = .ok (.int (cell ns 9)) := r_cell ns 9
  have gl := c.gdL
  have mk : (Str.ofString "mark" ≠ Str.ofString "down") ∧ (Str.ofString "mark" ≠ Str.ofString "else") := by simp

  have hmin : biD .min2 [.int (c.m : Int), .int 3] = .ok (.int ((if c.m ≤ 3 then c.m else 3 : Nat) : Int)) := by
    simp only [biD]
    split <;> split <;> first | rfl | omega
  refine for_nop (fun i : Nat => PyData.int (i : Int)) (List.range (if c.m ≤ 3 then c.m else 3)) ?_ rfl fun j hj => ⟨_, rfl, ?_⟩
  · simp [-biD, hmin]
    exact r1R_nat (by split <;> omega)
  · have hj := List.mem_range.mp hj
    have hm0 : 0 < c.m := by split at hj <;> omega
    have hmI : 0 < (c.m : Int) := by omega
    obtain ⟨k, ek⟩ : ∃ k : Nat, (cell ns 9 + (j : Int)) % (c.m : Int) = (k : Int) := Int.eq_ofNat_of_zero_le (Int.emod_nonneg _ (by omega))
    have hk : k < c.m := by
      have := Int.emod_lt_of_pos (cell ns 9 + (j : Int)) hmI
      omega
    have h6 := c.hm
    have a1 := c.ixW (k := k) (by omega)
    have hh := c.r_houses
    have nl : [c.wd k, sHost].length ≤ 900 := by simp
    obtain ⟨F, o, g, _, ht, et⟩ := r_truth c.LL c.PP gl sHere [c.wd k, sHost] nl sMark mk.1 mk.2
    obtain ⟨o', ho', hd⟩ := c.r_due g hk
    have : o = o' := ht.det ho'
    subst this
    have ne : kpZ c.LL (Str.ofString "elsewhere") [] = none := by
      cases q : kpZ c.LL (Str.ofString "elsewhere") [] with
      | none => rfl
      | some z =>
        have := ((c.kp_here _ _ _).mp q).1
        exact absurd this (by decide +kernel)
    have e2 := lone_truth gl ne [c.wd k, sHost] nl sDoor door_ne.1 door_ne.2
    have q1 := encO.ne (by decide) o o
    rw [decide_eq_true rfl] at q1
    have q2 := encO.ne (by decide) (Str.ofString "lost", [], [⟨Str.ofString "asked", [c.wd k, sHost], sDoor⟩]) (Str.ofString "lost", [], [⟨Str.ofString "asked", [c.wd k, sHost], sDoor⟩])
    rw [decide_eq_true rfl] at q2
    have ti : isiD .tuple (outD o) = .ok true := rfl
    have ew : (.tuple [.str (Str.ofString "lost"), .list [], .list [.tuple [.str (Str.ofString "asked"), nm [c.wd k, sHost], .str (Str.ofString "door")]]] : Dat) = outD (Str.ofString "lost", [], [⟨Str.ofString "asked", [c.wd k, sHost], sDoor⟩]) := rfl
    have en : (.tuple [.str (c.wd k), .str (Str.ofString "host")] : Dat) = nm [c.wd k, sHost] := rfl
    refine ⟨[.fz (.list (ns.map .int)), .fz (.int c.m), .fz c.ND, .fz c.VD, .fz c.WD, .fz (.int c.l), .fz (.int j), .fz (.int k), .fz (hsP c.LL), .fz (nm [c.wd k, sHost]), .fz (outD o), .un], .inl ?_, rfl⟩
    simp [-ixD, -isiD, v0_law, c9, bin_mod _ _ hmI, ek, hh, a1, en, et, ti, hd, q1, e2, ew, q2]
theorem law_true (ns : List Int) (hn : ns.length ≤ 63) : f_law [.list (ns.map .int)] = .ok (.bool true) := by
  have hC : (ns.drop 3).take (9 - 3) = (ns.drop 3).take 6 := rfl
  have es : slD (.list (ns.map .int)) (some 3) (some 9) = .ok (.list (((ns.drop 3).take 6).map .int)) := by
    have := cut_mid (ns.map PyData.int) 3 9
    simp only [slD]
    rw [show (some (3 : Int)) = some ((3 : Nat) : Int) from rfl, show (some (9 : Int)) = some ((9 : Nat) : Int) from rfl, this]
    simp [List.map_take, List.map_drop]
  generalize hCC : (ns.drop 3).take 6 = C at es
  have lC : C.length ≤ 6 := by rw [← hCC]; simp; omega
  have c0 : f_l_cell_at [.list (ns.map .int), .int 0] = .ok (.int (cell ns 0)) := r_cell ns 0
  have c1 : f_l_cell_at [.list (ns.map .int), .int 1] = .ok (.int (cell ns 1)) := r_cell ns 1
  have c2 : f_l_cell_at [.list (ns.map .int), .int 2] = .ok (.int (cell ns 2)) := r_cell ns 2
  have c9 : f_l_cell_at [.list (ns.map .int), .int 9] = .ok (.int (cell ns 9)) := r_cell ns 9
  obtain ⟨W, hW, lW, ndW⟩ := r_words (cell ns 0) (cell ns 1)
  have eN : ∃ N : List Nat, ev Q_law e0_law [.fz (.list (ns.map .int)), .fz (.int C.length), .un, .un, .un, .un, .un, .un, .un, .un, .un, .un] = .ok (.list (N.map fun v : Nat => PyData.int (v : Int))) ∧ N.length = C.length ∧ ∀ v ∈ N, v < C.length := by
    refine lc_nat PyData.int (fun v => v < C.length) C (by simp [-slD, es]) (by omega) fun x hx => ⟨_, rfl, by simp, (x % (C.length : Int)).toNat, ?_, ?_⟩
    · have h0 : 0 < (C.length : Int) := by have := List.length_pos_of_mem hx; omega
      have h1 := Int.emod_nonneg x (b := (C.length : Int)) (by omega)
      have h2 : (((x % (C.length : Int)).toNat : Nat) : Int) = x % (C.length : Int) := by omega
      rw [h2]
      simp [bin_mod _ _ h0]
    · have h0 : 0 < (C.length : Int) := by have := List.length_pos_of_mem hx; omega
      have h1 := Int.emod_nonneg x (b := (C.length : Int)) (by omega)
      have h2 := Int.emod_lt_of_pos x h0
      omega
  obtain ⟨N, hN, lN, nN⟩ := eN
  have eV : ∃ V : List Nat, ev Q_law e1_law [.fz (.list (ns.map .int)), .fz (.int C.length), .fz (.list (N.map fun v : Nat => PyData.int (v : Int))), .un, .un, .un, .un, .un, .un, .un, .un, .un] = .ok (.list (V.map fun v : Nat => PyData.int (v : Int))) ∧ V.length = C.length ∧ ∀ v ∈ V, v ≤ 3 := by
    refine lc_nat PyData.int (fun v => v ≤ 3) C (by simp [-slD, es]) (by omega) fun x hx => ⟨_, rfl, by simp, ?_⟩
    have p := r_part x 3 5 (by omega)
    obtain ⟨v, hv, hv3⟩ := ways_ix (part x 3 5) (part_lo _ _ _ (by omega)) (part_hi _ _ _ (by omega))
    refine ⟨v, ?_, hv3⟩
    simp only [ev_ix, ev_lst, evs_cons, evs_nil, ev_int, consR_ok, lstR_ok]
    simp [-ixD, p, hv]
  obtain ⟨V, hV, lV, vV⟩ := eV
  obtain ⟨c, hWD, hND, hVD, hc, hl⟩ : ∃ c : Cfg, (.list (W.map PyData.str) : Dat) = c.WD ∧ (.list (N.map fun v : Nat => PyData.int (v : Int)) : Dat) = c.ND ∧ (.list (V.map fun v : Nat => PyData.int (v : Int)) : Dat) = c.VD ∧ C.length = c.m ∧ cell ns 2 % 1000000000 = c.l :=
    ⟨⟨W, N, V, C.length, cell ns 2 % 1000000000, lW, ndW, lN, lV, nN, vV, lC⟩, rfl, rfl, rfl, rfl, rfl⟩
  have hloop := law_loop ns c
  have mk := mk_ne
  have g0 : GdL [] [] := ⟨fun d z hz => by simp [atP] at hz, by simp, by simp⟩
  have e3 := lone_truth g0 (root := sHere) rfl [c.wd 0] (by simp) sMark mk.1 mk.2
  have q3 := encO.eq (by decide) (Str.ofString "lost", [], [⟨Str.ofString "asked", [c.wd 0], sMark⟩]) (Str.ofString "lost", [], [⟨Str.ofString "asked", [c.wd 0], sMark⟩])
  rw [decide_eq_true rfl] at q3
  have a0 := c.ixW (k := 0) (by omega)
  have ew0 : (.tuple [.str (Str.ofString "lost"), .list [], .list [.tuple [.str (Str.ofString "asked"), nm [c.wd 0], .str (Str.ofString "mark")]]] : Dat) = outD (Str.ofString "lost", [], [⟨Str.ofString "asked", [c.wd 0], sMark⟩]) := rfl
  have eh0 : (.dict [] : Dat) = hsP [] := rfl
  have en0 : (.tuple [.str (c.wd 0)] : Dat) = nm [c.wd 0] := rfl
  have hlen : biD .len [.list (C.map .int)] = .ok (.int (C.length : Int)) := by simp
  rw [hND] at hN hV
  rw [hVD] at hV
  rw [hWD] at hW
  rw [hc] at hN hV hlen
  simp only [Int.ofNat_zero, Int.natCast_zero] at a0
  simp [-ixD, -slD, -biD, f_law, b_law, es, hlen, hN, hV, c0, c1, c2, hW, bin_mod, hl, hloop, a0, ew0, eh0, en0, e3, q3]
end NK44
end

section
set_option maxHeartbeats 0
namespace NK44
open PySem PySem.Spec PyProof.Rows L2 NW
def top (i : Nat) : Stmt := PySem.Challenge.pw_namewell_k44_rings_and_the_lost.main.body.getD i (.Pass ⟨0, 0, 0, 0⟩)
abbrev FnP (K : PySem.W.Frag) (x : Str) (st : Stmt) (f : Addr) (fd : FuncData) : Prop := FunD K x x (defArgs st) (defBody st) (defScope st) [] [] f fd
theorem ok_p_at_or_beneath : okSs (T.at_ false) 0 N_p_at_or_beneath (defScope (top 1)) 0 b_p_at_or_beneath (defBody (top 1)) = true := by decide +kernel
theorem sc_p_at_or_beneath : FnScope N_p_at_or_beneath ["name", "top"] (defScope (top 1)) := ⟨rfl, rfl, rfl, by decide +kernel, rfl, by decide +kernel, by decide +kernel⟩
def d_p_at_or_beneath : He.DefD := ⟨("at_or_beneath", none), "at_or_beneath", "at_or_beneath", defArgs (top 1), defBody (top 1), defScope (top 1), [], []⟩
theorem ok_p_above : okSs (T.at_ false) 1 N_p_above (defScope (top 2)) 0 b_p_above (defBody (top 2)) = true := by decide +kernel
theorem sc_p_above : FnScope N_p_above ["name"] (defScope (top 2)) := ⟨rfl, rfl, rfl, by decide +kernel, rfl, by decide +kernel, by decide +kernel⟩
def d_p_above : He.DefD := ⟨("above", none), "above", "above", defArgs (top 2), defBody (top 2), defScope (top 2), [], []⟩
theorem ok_p_rows_at : okSs (T.at_ false) 2 N_p_rows_at (defScope (top 4)) 0 b_p_rows_at (defBody (top 4)) = true := by decide +kernel
theorem sc_p_rows_at : FnScope N_p_rows_at ["zone", "name"] (defScope (top 4)) := ⟨rfl, rfl, rfl, by decide +kernel, rfl, by decide +kernel, by decide +kernel⟩
def d_p_rows_at : He.DefD := ⟨("rows_at", none), "rows_at", "rows_at", defArgs (top 4), defBody (top 4), defScope (top 4), [], []⟩
theorem ok_p_down_at : okSs (T.at_ false) 3 N_p_down_at (defScope (top 5)) 0 b_p_down_at (defBody (top 5)) = true := by decide +kernel
theorem sc_p_down_at : FnScope N_p_down_at ["zone", "name"] (defScope (top 5)) := ⟨rfl, rfl, rfl, by decide +kernel, rfl, by decide +kernel, by decide +kernel⟩
def d_p_down_at : He.DefD := ⟨("down_at", none), "down_at", "down_at", defArgs (top 5), defBody (top 5), defScope (top 5), [], []⟩
theorem ok_p_cut_of : okSs (T.at_ false) 4 N_p_cut_of (defScope (top 6)) 0 b_p_cut_of (defBody (top 6)) = true := by decide +kernel
theorem sc_p_cut_of : FnScope N_p_cut_of ["zone", "name"] (defScope (top 6)) := ⟨rfl, rfl, rfl, by decide +kernel, rfl, by decide +kernel, by decide +kernel⟩
def d_p_cut_of : He.DefD := ⟨("cut_of", none), "cut_of", "cut_of", defArgs (top 6), defBody (top 6), defScope (top 6), [], []⟩
theorem ok_p_stands : okSs (T.at_ false) 5 N_p_stands (defScope (top 7)) 0 b_p_stands (defBody (top 7)) = true := by decide +kernel
theorem sc_p_stands : FnScope N_p_stands ["zone", "name"] (defScope (top 7)) := ⟨rfl, rfl, rfl, by decide +kernel, rfl, by decide +kernel, by decide +kernel⟩
def d_p_stands : He.DefD := ⟨("stands", none), "stands", "stands", defArgs (top 7), defBody (top 7), defScope (top 7), [], []⟩
theorem ok_p_doors_at : okSs (T.at_ false) 6 N_p_doors_at (defScope (top 8)) 0 b_p_doors_at (defBody (top 8)) = true := by decide +kernel
theorem sc_p_doors_at : FnScope N_p_doors_at ["zone", "cut", "house"] (defScope (top 8)) := ⟨rfl, rfl, rfl, by decide +kernel, rfl, by decide +kernel, by decide +kernel⟩
def d_p_doors_at : He.DefD := ⟨("doors_at", none), "doors_at", "doors_at", defArgs (top 8), defBody (top 8), defScope (top 8), [], []⟩
theorem ok_p_told_down : okSs (T.at_ false) 7 N_p_told_down (defScope (top 9)) 0 b_p_told_down (defBody (top 9)) = true := by decide +kernel
theorem sc_p_told_down : FnScope N_p_told_down ["zone", "cut"] (defScope (top 9)) := ⟨rfl, rfl, rfl, by decide +kernel, rfl, by decide +kernel, by decide +kernel⟩
def d_p_told_down : He.DefD := ⟨("told_down", none), "told_down", "told_down", defArgs (top 9), defBody (top 9), defScope (top 9), [], []⟩
theorem ok_p_look_at : okSs (T.at_ false) 8 N_p_look_at (defScope (top 10)) 0 b_p_look_at (defBody (top 10)) = true := by decide +kernel
theorem sc_p_look_at : FnScope N_p_look_at ["zone", "name"] (defScope (top 10)) := ⟨rfl, rfl, rfl, by decide +kernel, rfl, by decide +kernel, by decide +kernel⟩
def d_p_look_at : He.DefD := ⟨("look_at", none), "look_at", "look_at", defArgs (top 10), defBody (top 10), defScope (top 10), [], []⟩
theorem ok_p_told_by : okSs (T.at_ false) 9 N_p_told_by (defScope (top 11)) 0 b_p_told_by (defBody (top 11)) = true := by decide +kernel
theorem sc_p_told_by : FnScope N_p_told_by ["zone", "rows", "kind"] (defScope (top 11)) := ⟨rfl, rfl, rfl, by decide +kernel, rfl, by decide +kernel, by decide +kernel⟩
def d_p_told_by : He.DefD := ⟨("told_by", none), "told_by", "told_by", defArgs (top 11), defBody (top 11), defScope (top 11), [], []⟩
theorem ok_p_told : okSs (T.at_ false) 10 N_p_told (defScope (top 12)) 0 b_p_told (defBody (top 12)) = true := by decide +kernel
theorem sc_p_told : FnScope N_p_told ["zone", "name", "kind"] (defScope (top 12)) := ⟨rfl, rfl, rfl, by decide +kernel, rfl, by decide +kernel, by decide +kernel⟩
def d_p_told : He.DefD := ⟨("told", none), "told", "told", defArgs (top 12), defBody (top 12), defScope (top 12), [], []⟩
theorem ok_p_zones_at : okSs (T.at_ false) 11 N_p_zones_at (defScope (top 14)) 0 b_p_zones_at (defBody (top 14)) = true := by decide +kernel
theorem sc_p_zones_at : FnScope N_p_zones_at ["houses", "door"] (defScope (top 14)) := ⟨rfl, rfl, rfl, by decide +kernel, rfl, by decide +kernel, by decide +kernel⟩
def d_p_zones_at : He.DefD := ⟨("zones_at", none), "zones_at", "zones_at", defArgs (top 14), defBody (top 14), defScope (top 14), [], []⟩
theorem ok_p_kept : okSs (T.at_ false) 12 N_p_kept (defScope (top 15)) 0 b_p_kept (defBody (top 15)) = true := by decide +kernel
theorem sc_p_kept : FnScope N_p_kept ["houses", "door", "top"] (defScope (top 15)) := ⟨rfl, rfl, rfl, by decide +kernel, rfl, by decide +kernel, by decide +kernel⟩
def d_p_kept : He.DefD := ⟨("kept", none), "kept", "kept", defArgs (top 15), defBody (top 15), defScope (top 15), [], []⟩
theorem ok_p_charge_of : okSs (T.at_ false) 13 N_p_charge_of (defScope (top 17)) 0 b_p_charge_of (defBody (top 17)) = true := by decide +kernel
theorem sc_p_charge_of : FnScope N_p_charge_of ["found", "name"] (defScope (top 17)) := ⟨rfl, rfl, rfl, by decide +kernel, rfl, by decide +kernel, by decide +kernel⟩
def d_p_charge_of : He.DefD := ⟨("charge_of", none), "charge_of", "charge_of", defArgs (top 17), defBody (top 17), defScope (top 17), [], []⟩
theorem ok_p_reply_of : okSs (T.at_ false) 14 N_p_reply_of (defScope (top 18)) 0 b_p_reply_of (defBody (top 18)) = true := by decide +kernel
theorem sc_p_reply_of : FnScope N_p_reply_of ["houses", "found", "name", "kind"] (defScope (top 18)) := ⟨rfl, rfl, rfl, by decide +kernel, rfl, by decide +kernel, by decide +kernel⟩
def d_p_reply_of : He.DefD := ⟨("reply_of", none), "reply_of", "reply_of", defArgs (top 18), defBody (top 18), defScope (top 18), [], []⟩
theorem ok_p_leads : okSs (T.at_ false) 15 N_p_leads (defScope (top 19)) 0 b_p_leads (defBody (top 19)) = true := by decide +kernel
theorem sc_p_leads : FnScope N_p_leads ["houses", "found", "name", "kind"] (defScope (top 19)) := ⟨rfl, rfl, rfl, by decide +kernel, rfl, by decide +kernel, by decide +kernel⟩
def d_p_leads : He.DefD := ⟨("leads", none), "leads", "leads", defArgs (top 19), defBody (top 19), defScope (top 19), [], []⟩
theorem ok_p_cuts_at : okSs (T.at_ false) 16 N_p_cuts_at (defScope (top 20)) 2 b_p_cuts_at (defBody (top 20)) = true := by decide +kernel
theorem sc_p_cuts_at : FnScope N_p_cuts_at ["houses", "top", "door"] (defScope (top 20)) := ⟨rfl, rfl, rfl, by decide +kernel, rfl, by decide +kernel, by decide +kernel⟩
def d_p_cuts_at : He.DefD := ⟨("cuts_at", none), "cuts_at", "cuts_at", defArgs (top 20), defBody (top 20), defScope (top 20), [], []⟩
theorem ok_p_found_doors : okSs (T.at_ false) 17 N_p_found_doors (defScope (top 21)) 0 b_p_found_doors (defBody (top 21)) = true := by decide +kernel
theorem sc_p_found_doors : FnScope N_p_found_doors ["houses", "found", "reply"] (defScope (top 21)) := ⟨rfl, rfl, rfl, by decide +kernel, rfl, by decide +kernel, by decide +kernel⟩
def d_p_found_doors : He.DefD := ⟨("found_doors", none), "found_doors", "found_doors", defArgs (top 21), defBody (top 21), defScope (top 21), [], []⟩
theorem ok_p_charges : okSs (T.at_ false) 18 N_p_charges (defScope (top 22)) 0 b_p_charges (defBody (top 22)) = true := by decide +kernel
theorem sc_p_charges : FnScope N_p_charges ["houses", "root"] (defScope (top 22)) := ⟨rfl, rfl, rfl, by decide +kernel, rfl, by decide +kernel, by decide +kernel⟩
def d_p_charges : He.DefD := ⟨("charges", none), "charges", "charges", defArgs (top 22), defBody (top 22), defScope (top 22), [], []⟩
theorem ok_p_waiting : okSs (T.at_ false) 19 N_p_waiting (defScope (top 23)) 0 b_p_waiting (defBody (top 23)) = true := by decide +kernel
theorem sc_p_waiting : FnScope N_p_waiting ["waits", "step"] (defScope (top 23)) := ⟨rfl, rfl, rfl, by decide +kernel, rfl, by decide +kernel, by decide +kernel⟩
def d_p_waiting : He.DefD := ⟨("waiting", none), "waiting", "waiting", defArgs (top 23), defBody (top 23), defScope (top 23), [], []⟩
theorem ok_p_by_door : okSs (T.at_ false) 20 N_p_by_door (defScope (top 24)) 0 b_p_by_door (defBody (top 24)) = true := by decide +kernel
theorem sc_p_by_door : FnScope N_p_by_door ["waits"] (defScope (top 24)) := ⟨rfl, rfl, rfl, by decide +kernel, rfl, by decide +kernel, by decide +kernel⟩
def d_p_by_door : He.DefD := ⟨("by_door", none), "by_door", "by_door", defArgs (top 24), defBody (top 24), defScope (top 24), [], []⟩
theorem ok_p_ended : okSs (T.at_ false) 21 N_p_ended (defScope (top 25)) 0 b_p_ended (defBody (top 25)) = true := by decide +kernel
theorem sc_p_ended : FnScope N_p_ended ["reply", "waits"] (defScope (top 25)) := ⟨rfl, rfl, rfl, by decide +kernel, rfl, by decide +kernel, by decide +kernel⟩
def d_p_ended : He.DefD := ⟨("ended", none), "ended", "ended", defArgs (top 25), defBody (top 25), defScope (top 25), [], []⟩
theorem ok_p_truth : okSs (T.at_ false) 22 N_p_truth (defScope (top 26)) 0 b_p_truth (defBody (top 26)) = true := by decide +kernel
theorem sc_p_truth : FnScope N_p_truth ["houses", "root", "name", "kind"] (defScope (top 26)) := ⟨rfl, rfl, rfl, by decide +kernel, rfl, by decide +kernel, by decide +kernel⟩
def d_p_truth : He.DefD := ⟨("truth", none), "truth", "truth", defArgs (top 26), defBody (top 26), defScope (top 26), [], []⟩
theorem ok_l_cell_at : okSs (T.at_ false) 23 N_l_cell_at (defScope (top 28)) 0 b_l_cell_at (defBody (top 28)) = true := by decide +kernel
theorem sc_l_cell_at : FnScope N_l_cell_at ["_law_script", "_law_k"] (defScope (top 28)) := ⟨rfl, rfl, rfl, by decide +kernel, rfl, by decide +kernel, by decide +kernel⟩
def d_l_cell_at : He.DefD := ⟨("_law_cell_at", none), "_law_cell_at", "_law_cell_at", defArgs (top 28), defBody (top 28), defScope (top 28), [], []⟩
theorem ok_l_part : okSs (T.at_ false) 24 N_l_part (defScope (top 29)) 0 b_l_part (defBody (top 29)) = true := by decide +kernel
theorem sc_l_part : FnScope N_l_part ["_law_cell", "_law_k", "_law_many"] (defScope (top 29)) := ⟨rfl, rfl, rfl, by decide +kernel, rfl, by decide +kernel, by decide +kernel⟩
def d_l_part : He.DefD := ⟨("_law_part", none), "_law_part", "_law_part", defArgs (top 29), defBody (top 29), defScope (top 29), [], []⟩
theorem ok_l_words : okSs (T.at_ false) 25 N_l_words (defScope (top 30)) 0 b_l_words (defBody (top 30)) = true := by decide +kernel
theorem sc_l_words : FnScope N_l_words ["_law_one", "_law_other", "_law_many"] (defScope (top 30)) := ⟨rfl, rfl, rfl, by decide +kernel, rfl, by decide +kernel, by decide +kernel⟩
def d_l_words : He.DefD := ⟨("_law_words", none), "_law_words", "_law_words", defArgs (top 30), defBody (top 30), defScope (top 30), [], []⟩
theorem ok_l_zone : okSs (T.at_ false) 26 N_l_zone (defScope (top 31)) 0 b_l_zone (defBody (top 31)) = true := by decide +kernel
theorem sc_l_zone : FnScope N_l_zone ["_law_words_here", "_law_nexts", "_law_ways", "_law_k", "_law_life"] (defScope (top 31)) := ⟨rfl, rfl, rfl, by decide +kernel, rfl, by decide +kernel, by decide +kernel⟩
def d_l_zone : He.DefD := ⟨("_law_zone", none), "_law_zone", "_law_zone", defArgs (top 31), defBody (top 31), defScope (top 31), [], []⟩
theorem ok_l_houses : okSs (T.at_ false) 27 N_l_houses (defScope (top 32)) 0 b_l_houses (defBody (top 32)) = true := by decide +kernel
theorem sc_l_houses : FnScope N_l_houses ["_law_words_here", "_law_nexts", "_law_ways", "_law_life"] (defScope (top 32)) := ⟨rfl, rfl, rfl, by decide +kernel, rfl, by decide +kernel, by decide +kernel⟩
def d_l_houses : He.DefD := ⟨("_law_houses", none), "_law_houses", "_law_houses", defArgs (top 32), defBody (top 32), defScope (top 32), [], []⟩
theorem ok_l_leads : okSs (T.at_ false) 28 N_l_leads (defScope (top 33)) 0 b_l_leads (defBody (top 33)) = true := by decide +kernel
theorem sc_l_leads : FnScope N_l_leads ["_law_nexts", "_law_ways", "_law_at"] (defScope (top 33)) := ⟨rfl, rfl, rfl, by decide +kernel, rfl, by decide +kernel, by decide +kernel⟩
def d_l_leads : He.DefD := ⟨("_law_leads", none), "_law_leads", "_law_leads", defArgs (top 33), defBody (top 33), defScope (top 33), [], []⟩
theorem ok_l_due : okSs (T.at_ false) 29 N_l_due (defScope (top 34)) 0 b_l_due (defBody (top 34)) = true := by decide +kernel
theorem sc_l_due : FnScope N_l_due ["_law_words_here", "_law_nexts", "_law_ways", "_law_k"] (defScope (top 34)) := ⟨rfl, rfl, rfl, by decide +kernel, rfl, by decide +kernel, by decide +kernel⟩
def d_l_due : He.DefD := ⟨("_law_due", none), "_law_due", "_law_due", defArgs (top 34), defBody (top 34), defScope (top 34), [], []⟩
theorem ok_law : okSs (T.at_ false) 30 N_law (defScope (top 35)) 0 b_law (defBody (top 35)) = true := by decide +kernel
theorem sc_law : FnScope N_law ["_law_script"] (defScope (top 35)) := ⟨rfl, rfl, rfl, by decide +kernel, rfl, by decide +kernel, by decide +kernel⟩
def d_law : He.DefD := ⟨("law", none), "law", "law", defArgs (top 35), defBody (top 35), defScope (top 35), [], []⟩
def fn : List He.DefD := [d_p_at_or_beneath, d_p_above, d_p_rows_at, d_p_down_at, d_p_cut_of, d_p_stands, d_p_doors_at, d_p_told_down, d_p_look_at, d_p_told_by, d_p_told, d_p_zones_at, d_p_kept, d_p_charge_of, d_p_reply_of, d_p_leads, d_p_cuts_at, d_p_found_doors, d_p_charges, d_p_waiting, d_p_by_door, d_p_ended, d_p_truth, d_l_cell_at, d_l_part, d_l_words, d_l_zone, d_l_houses, d_l_leads, d_l_due, d_law]
def fa : List He.Fa := [.glo "at_or_beneath", .glo "above", .glo "rows_at", .glo "down_at", .glo "cut_of", .glo "stands", .glo "doors_at", .glo "told_down", .glo "look_at", .glo "told_by", .glo "told", .glo "zones_at", .glo "kept", .glo "charge_of", .glo "reply_of", .glo "leads", .glo "cuts_at", .glo "found_doors", .glo "charges", .glo "waiting", .glo "by_door", .glo "ended", .glo "truth", .glo "_law_cell_at", .glo "_law_part", .glo "_law_words", .glo "_law_zone", .glo "_law_houses", .glo "_law_leads", .glo "_law_due", .glo "law", .free "len", .free "min", .free "max", .free "int", .free "str", .free "ord", .free "tuple", .free "list", .free "isinstance", .free "bool", .free "range", .free "any", .free "all", .free "sorted"]
def ex : List (PySem.W.Frag → Bool) := []
def loose0 : List Str := ["at_or_beneath", "above", "rows_at", "down_at", "cut_of", "stands", "doors_at", "told_down", "look_at", "told_by", "told", "zones_at", "kept", "charge_of", "reply_of", "leads", "cuts_at", "found_doors", "charges", "waiting"]
def loose1 : List Str := ["by_door", "ended", "truth", "_law_cell_at", "_law_part", "_law_words", "_law_zone", "_law_houses", "_law_leads", "_law_due"]
def loose : List Str := loose0 ++ loose1
abbrev R : PySem.W.OpenRow := PySem.W.OpenLaw.row PySem.Challenge.rw_namewell_k44_rings_and_the_lost
abbrev hk : PySem.W.Hook := hookX 4 fa fn ex
def ob (s : PySem.W.SharedT) : AlX := obsXG 4 fa fn ex (HandSHeadRun.getT s)
theorem ob_eq (s : PySem.W.SharedT) : ob s = hk.obs s.abs := obsXG_eq (HandSHeadRun.getT_eq s)
theorem run (w : World) : HandSHeadRun.RunEq R (PySem.W.view R.prog [35]) hk ob 4000 loose w := by
  intro os
  kernel_rfl
theorem facts {P : Program} {w : World} {K : PySem.W.Frag} {h : Heap} {mg : Str → Option Value} {f : Addr} (X : K.In h) (G : h.Ns mainGlobals mg) (hfa : mg ("law" : Str) = some (.ref f)) (c : He.SaysD fa fn K) (cx : exAll ex K = true) :
    ∃ fd : FuncData, (∀ (s : Shared) (v : Value), BindsTo s fd ⟨[v], []⟩ [("_law_script", v)]) ∧ ∀ base : Heap, K.In base → base.Ns mainGlobals mg → FnOk P w K mg base CX0 31 f fd ["_law_script"] (fun vs H Q _ => spD K mg g_law f_law vs H Q (fun _ _ _ => False)) := by
  obtain ⟨fd0, F0⟩ := c.def_ 0 (d := d_p_at_or_beneath) rfl
  obtain ⟨fd1, F1⟩ := c.def_ 1 (d := d_p_above) rfl
  obtain ⟨fd2, F2⟩ := c.def_ 2 (d := d_p_rows_at) rfl
  obtain ⟨fd3, F3⟩ := c.def_ 3 (d := d_p_down_at) rfl
  obtain ⟨fd4, F4⟩ := c.def_ 4 (d := d_p_cut_of) rfl
  obtain ⟨fd5, F5⟩ := c.def_ 5 (d := d_p_stands) rfl
  obtain ⟨fd6, F6⟩ := c.def_ 6 (d := d_p_doors_at) rfl
  obtain ⟨fd7, F7⟩ := c.def_ 7 (d := d_p_told_down) rfl
  obtain ⟨fd8, F8⟩ := c.def_ 8 (d := d_p_look_at) rfl
  obtain ⟨fd9, F9⟩ := c.def_ 9 (d := d_p_told_by) rfl
  obtain ⟨fd10, F10⟩ := c.def_ 10 (d := d_p_told) rfl
  obtain ⟨fd11, F11⟩ := c.def_ 11 (d := d_p_zones_at) rfl
  obtain ⟨fd12, F12⟩ := c.def_ 12 (d := d_p_kept) rfl
  obtain ⟨fd13, F13⟩ := c.def_ 13 (d := d_p_charge_of) rfl
  obtain ⟨fd14, F14⟩ := c.def_ 14 (d := d_p_reply_of) rfl
  obtain ⟨fd15, F15⟩ := c.def_ 15 (d := d_p_leads) rfl
  obtain ⟨fd16, F16⟩ := c.def_ 16 (d := d_p_cuts_at) rfl
  obtain ⟨fd17, F17⟩ := c.def_ 17 (d := d_p_found_doors) rfl
  obtain ⟨fd18, F18⟩ := c.def_ 18 (d := d_p_charges) rfl
  obtain ⟨fd19, F19⟩ := c.def_ 19 (d := d_p_waiting) rfl
  obtain ⟨fd20, F20⟩ := c.def_ 20 (d := d_p_by_door) rfl
  obtain ⟨fd21, F21⟩ := c.def_ 21 (d := d_p_ended) rfl
  obtain ⟨fd22, F22⟩ := c.def_ 22 (d := d_p_truth) rfl
  obtain ⟨fd23, F23⟩ := c.def_ 23 (d := d_l_cell_at) rfl
  obtain ⟨fd24, F24⟩ := c.def_ 24 (d := d_l_part) rfl
  obtain ⟨fd25, F25⟩ := c.def_ 25 (d := d_l_words) rfl
  obtain ⟨fd26, F26⟩ := c.def_ 26 (d := d_l_zone) rfl
  obtain ⟨fd27, F27⟩ := c.def_ 27 (d := d_l_houses) rfl
  obtain ⟨fd28, F28⟩ := c.def_ 28 (d := d_l_leads) rfl
  obtain ⟨fd29, F29⟩ := c.def_ 29 (d := d_l_due) rfl
  obtain ⟨fd30, F30⟩ := c.def_ 30 (d := d_law) rfl
  have e := hfa.symm.trans (He.glo_ok X G (c.fact 30 (f := .glo "law") rfl))
  cases e
  have b := FunD.bindsA (ps := ["_law_script"]) F30 fun _ _ _ _ _ _ us hl => match us, hl with | [_], _ => rfl
  refine ⟨fd30, fun s v => b s [v] rfl, fun base _ _ => ?_⟩
  have w0 : Gw P w K mg base T P0 0 := ⟨fun k sg h => absurd h (Nat.not_lt_zero k), fun k x h => ?_, fun b hb => ?_, fun cc hc => ?_, fun cc cy r hr => ?_, fun cc cy r hr => ?_, fun cc hc => ?_⟩
  rotate_left
  · cases h
  · simp only [bltN, List.mem_cons, List.not_mem_nil, or_false] at hb
    rcases hb with rfl | rfl | rfl | rfl | rfl | rfl | rfl | rfl | rfl | rfl | rfl | rfl | rfl | rfl
    · exact He.free_ok X G (c.fact 31 (f := .free "len") rfl)
    · exact He.free_ok X G (c.fact 32 (f := .free "min") rfl)
    · exact He.free_ok X G (c.fact 33 (f := .free "max") rfl)
    · exact He.free_ok X G (c.fact 34 (f := .free "int") rfl)
    · exact He.free_ok X G (c.fact 35 (f := .free "str") rfl)
    · exact He.free_ok X G (c.fact 36 (f := .free "ord") rfl)
    · exact He.free_ok X G (c.fact 37 (f := .free "tuple") rfl)
    · exact He.free_ok X G (c.fact 38 (f := .free "list") rfl)
    · exact He.free_ok X G (c.fact 39 (f := .free "isinstance") rfl)
    · exact He.free_ok X G (c.fact 40 (f := .free "bool") rfl)
    · exact He.free_ok X G (c.fact 41 (f := .free "range") rfl)
    · exact He.free_ok X G (c.fact 42 (f := .free "any") rfl)
    · exact He.free_ok X G (c.fact 43 (f := .free "all") rfl)
    · exact He.free_ok X G (c.fact 44 (f := .free "sorted") rfl)
  · cases hc
  · cases hr
  · cases hr
  · cases hc
  have w1 : Gw P w K mg base T P1 1 := w0.next (N := N_p_at_or_beneath) (ps := ["name", "top"]) (F := f_p_at_or_beneath) (ir := b_p_at_or_beneath) (sg := g_p_at_or_beneath) rfl F0 (He.glo_ok X G (c.fact 0 (f := .glo "at_or_beneath") rfl)) sc_p_at_or_beneath rfl (by decide) ok_p_at_or_beneath (fun ds _ _ => rfl) fun _ _ _ _ _ _ us hl => match us, hl with | [_, _], _ => rfl
  have w2 : Gw P w K mg base T P2 2 := w1.next (N := N_p_above) (ps := ["name"]) (F := f_p_above) (ir := b_p_above) (sg := g_p_above) rfl F1 (He.glo_ok X G (c.fact 1 (f := .glo "above") rfl)) sc_p_above rfl (by decide) ok_p_above (fun ds _ _ => rfl) fun _ _ _ _ _ _ us hl => match us, hl with | [_], _ => rfl
  have w3 : Gw P w K mg base T P3 3 := w2.next (N := N_p_rows_at) (ps := ["zone", "name"]) (F := f_p_rows_at) (ir := b_p_rows_at) (sg := g_p_rows_at) rfl F2 (He.glo_ok X G (c.fact 2 (f := .glo "rows_at") rfl)) sc_p_rows_at rfl (by decide) ok_p_rows_at (fun ds _ _ => rfl) fun _ _ _ _ _ _ us hl => match us, hl with | [_, _], _ => rfl
  have w4 : Gw P w K mg base T P4 4 := w3.next (N := N_p_down_at) (ps := ["zone", "name"]) (F := f_p_down_at) (ir := b_p_down_at) (sg := g_p_down_at) rfl F3 (He.glo_ok X G (c.fact 3 (f := .glo "down_at") rfl)) sc_p_down_at rfl (by decide) ok_p_down_at (fun ds _ _ => rfl) fun _ _ _ _ _ _ us hl => match us, hl with | [_, _], _ => rfl
  have w5 : Gw P w K mg base T P5 5 := w4.next (N := N_p_cut_of) (ps := ["zone", "name"]) (F := f_p_cut_of) (ir := b_p_cut_of) (sg := g_p_cut_of) rfl F4 (He.glo_ok X G (c.fact 4 (f := .glo "cut_of") rfl)) sc_p_cut_of rfl (by decide) ok_p_cut_of (fun ds _ _ => rfl) fun _ _ _ _ _ _ us hl => match us, hl with | [_, _], _ => rfl
  have w6 : Gw P w K mg base T P6 6 := w5.next (N := N_p_stands) (ps := ["zone", "name"]) (F := f_p_stands) (ir := b_p_stands) (sg := g_p_stands) rfl F5 (He.glo_ok X G (c.fact 5 (f := .glo "stands") rfl)) sc_p_stands rfl (by decide) ok_p_stands (fun ds _ _ => rfl) fun _ _ _ _ _ _ us hl => match us, hl with | [_, _], _ => rfl
  have w7 : Gw P w K mg base T P7 7 := w6.next (N := N_p_doors_at) (ps := ["zone", "cut", "house"]) (F := f_p_doors_at) (ir := b_p_doors_at) (sg := g_p_doors_at) rfl F6 (He.glo_ok X G (c.fact 6 (f := .glo "doors_at") rfl)) sc_p_doors_at rfl (by decide) ok_p_doors_at (fun ds _ _ => rfl) fun _ _ _ _ _ _ us hl => match us, hl with | [_, _, _], _ => rfl
  have w8 : Gw P w K mg base T P8 8 := w7.next (N := N_p_told_down) (ps := ["zone", "cut"]) (F := f_p_told_down) (ir := b_p_told_down) (sg := g_p_told_down) rfl F7 (He.glo_ok X G (c.fact 7 (f := .glo "told_down") rfl)) sc_p_told_down rfl (by decide) ok_p_told_down (fun ds _ _ => rfl) fun _ _ _ _ _ _ us hl => match us, hl with | [_, _], _ => rfl
  have w9 : Gw P w K mg base T P9 9 := w8.next (N := N_p_look_at) (ps := ["zone", "name"]) (F := f_p_look_at) (ir := b_p_look_at) (sg := g_p_look_at) rfl F8 (He.glo_ok X G (c.fact 8 (f := .glo "look_at") rfl)) sc_p_look_at rfl (by decide) ok_p_look_at (fun ds _ _ => rfl) fun _ _ _ _ _ _ us hl => match us, hl with | [_, _], _ => rfl
  have w10 : Gw P w K mg base T P10 10 := w9.next (N := N_p_told_by) (ps := ["zone", "rows", "kind"]) (F := f_p_told_by) (ir := b_p_told_by) (sg := g_p_told_by) rfl F9 (He.glo_ok X G (c.fact 9 (f := .glo "told_by") rfl)) sc_p_told_by rfl (by decide) ok_p_told_by (fun ds _ _ => rfl) fun _ _ _ _ _ _ us hl => match us, hl with | [_, _, _], _ => rfl
  have w11 : Gw P w K mg base T P11 11 := w10.next (N := N_p_told) (ps := ["zone", "name", "kind"]) (F := f_p_told) (ir := b_p_told) (sg := g_p_told) rfl F10 (He.glo_ok X G (c.fact 10 (f := .glo "told") rfl)) sc_p_told rfl (by decide) ok_p_told (fun ds _ _ => rfl) fun _ _ _ _ _ _ us hl => match us, hl with | [_, _, _], _ => rfl
  have w12 : Gw P w K mg base T P12 12 := w11.next (N := N_p_zones_at) (ps := ["houses", "door"]) (F := f_p_zones_at) (ir := b_p_zones_at) (sg := g_p_zones_at) rfl F11 (He.glo_ok X G (c.fact 11 (f := .glo "zones_at") rfl)) sc_p_zones_at rfl (by decide) ok_p_zones_at (fun ds _ _ => rfl) fun _ _ _ _ _ _ us hl => match us, hl with | [_, _], _ => rfl
  have w13 : Gw P w K mg base T P13 13 := w12.next (N := N_p_kept) (ps := ["houses", "door", "top"]) (F := f_p_kept) (ir := b_p_kept) (sg := g_p_kept) rfl F12 (He.glo_ok X G (c.fact 12 (f := .glo "kept") rfl)) sc_p_kept rfl (by decide) ok_p_kept (fun ds _ _ => rfl) fun _ _ _ _ _ _ us hl => match us, hl with | [_, _, _], _ => rfl
  have w14 : Gw P w K mg base T P14 14 := w13.next (N := N_p_charge_of) (ps := ["found", "name"]) (F := f_p_charge_of) (ir := b_p_charge_of) (sg := g_p_charge_of) rfl F13 (He.glo_ok X G (c.fact 13 (f := .glo "charge_of") rfl)) sc_p_charge_of rfl (by decide) ok_p_charge_of (fun ds _ _ => rfl) fun _ _ _ _ _ _ us hl => match us, hl with | [_, _], _ => rfl
  have w15 : Gw P w K mg base T P15 15 := w14.next (N := N_p_reply_of) (ps := ["houses", "found", "name", "kind"]) (F := f_p_reply_of) (ir := b_p_reply_of) (sg := g_p_reply_of) rfl F14 (He.glo_ok X G (c.fact 14 (f := .glo "reply_of") rfl)) sc_p_reply_of rfl (by decide) ok_p_reply_of (fun ds _ _ => rfl) fun _ _ _ _ _ _ us hl => match us, hl with | [_, _, _, _], _ => rfl
  have w16 : Gw P w K mg base T P16 16 := w15.next (N := N_p_leads) (ps := ["houses", "found", "name", "kind"]) (F := f_p_leads) (ir := b_p_leads) (sg := g_p_leads) rfl F15 (He.glo_ok X G (c.fact 15 (f := .glo "leads") rfl)) sc_p_leads rfl (by decide) ok_p_leads (fun ds _ _ => rfl) fun _ _ _ _ _ _ us hl => match us, hl with | [_, _, _, _], _ => rfl
  have w17 : Gw P w K mg base T P17 17 := w16.next (N := N_p_cuts_at) (ps := ["houses", "top", "door"]) (F := f_p_cuts_at) (ir := b_p_cuts_at) (sg := g_p_cuts_at) rfl F16 (He.glo_ok X G (c.fact 16 (f := .glo "cuts_at") rfl)) sc_p_cuts_at rfl (by decide) ok_p_cuts_at (fun ds _ _ => rfl) fun _ _ _ _ _ _ us hl => match us, hl with | [_, _, _], _ => rfl
  have w18 : Gw P w K mg base T P18 18 := w17.next (N := N_p_found_doors) (ps := ["houses", "found", "reply"]) (F := f_p_found_doors) (ir := b_p_found_doors) (sg := g_p_found_doors) rfl F17 (He.glo_ok X G (c.fact 17 (f := .glo "found_doors") rfl)) sc_p_found_doors rfl (by decide) ok_p_found_doors (fun ds _ _ => rfl) fun _ _ _ _ _ _ us hl => match us, hl with | [_, _, _], _ => rfl
  have w19 : Gw P w K mg base T P19 19 := w18.next (N := N_p_charges) (ps := ["houses", "root"]) (F := f_p_charges) (ir := b_p_charges) (sg := g_p_charges) rfl F18 (He.glo_ok X G (c.fact 18 (f := .glo "charges") rfl)) sc_p_charges rfl (by decide) ok_p_charges (fun ds _ _ => rfl) fun _ _ _ _ _ _ us hl => match us, hl with | [_, _], _ => rfl
  have w20 : Gw P w K mg base T P20 20 := w19.next (N := N_p_waiting) (ps := ["waits", "step"]) (F := f_p_waiting) (ir := b_p_waiting) (sg := g_p_waiting) rfl F19 (He.glo_ok X G (c.fact 19 (f := .glo "waiting") rfl)) sc_p_waiting rfl (by decide) ok_p_waiting (fun ds _ _ => rfl) fun _ _ _ _ _ _ us hl => match us, hl with | [_, _], _ => rfl
  have w21 : Gw P w K mg base T P21 21 := w20.next (N := N_p_by_door) (ps := ["waits"]) (F := f_p_by_door) (ir := b_p_by_door) (sg := g_p_by_door) rfl F20 (He.glo_ok X G (c.fact 20 (f := .glo "by_door") rfl)) sc_p_by_door rfl (by decide) ok_p_by_door (fun ds _ _ => rfl) fun _ _ _ _ _ _ us hl => match us, hl with | [_], _ => rfl
  have w22 : Gw P w K mg base T P22 22 := w21.next (N := N_p_ended) (ps := ["reply", "waits"]) (F := f_p_ended) (ir := b_p_ended) (sg := g_p_ended) rfl F21 (He.glo_ok X G (c.fact 21 (f := .glo "ended") rfl)) sc_p_ended rfl (by decide) ok_p_ended (fun ds _ _ => rfl) fun _ _ _ _ _ _ us hl => match us, hl with | [_, _], _ => rfl
  have w23 : Gw P w K mg base T P23 23 := w22.next (N := N_p_truth) (ps := ["houses", "root", "name", "kind"]) (F := f_p_truth) (ir := b_p_truth) (sg := g_p_truth) rfl F22 (He.glo_ok X G (c.fact 22 (f := .glo "truth") rfl)) sc_p_truth rfl (by decide) ok_p_truth (fun ds _ _ => rfl) fun _ _ _ _ _ _ us hl => match us, hl with | [_, _, _, _], _ => rfl
  have w24 : Gw P w K mg base T P24 24 := w23.next (N := N_l_cell_at) (ps := ["_law_script", "_law_k"]) (F := f_l_cell_at) (ir := b_l_cell_at) (sg := g_l_cell_at) rfl F23 (He.glo_ok X G (c.fact 23 (f := .glo "_law_cell_at") rfl)) sc_l_cell_at rfl (by decide) ok_l_cell_at (fun ds _ _ => rfl) fun _ _ _ _ _ _ us hl => match us, hl with | [_, _], _ => rfl
  have w25 : Gw P w K mg base T P25 25 := w24.next (N := N_l_part) (ps := ["_law_cell", "_law_k", "_law_many"]) (F := f_l_part) (ir := b_l_part) (sg := g_l_part) rfl F24 (He.glo_ok X G (c.fact 24 (f := .glo "_law_part") rfl)) sc_l_part rfl (by decide) ok_l_part (fun ds _ _ => rfl) fun _ _ _ _ _ _ us hl => match us, hl with | [_, _, _], _ => rfl
  have w26 : Gw P w K mg base T P26 26 := w25.next (N := N_l_words) (ps := ["_law_one", "_law_other", "_law_many"]) (F := f_l_words) (ir := b_l_words) (sg := g_l_words) rfl F25 (He.glo_ok X G (c.fact 25 (f := .glo "_law_words") rfl)) sc_l_words rfl (by decide) ok_l_words (fun ds _ _ => rfl) fun _ _ _ _ _ _ us hl => match us, hl with | [_, _, _], _ => rfl
  have w27 : Gw P w K mg base T P27 27 := w26.next (N := N_l_zone) (ps := ["_law_words_here", "_law_nexts", "_law_ways", "_law_k", "_law_life"]) (F := f_l_zone) (ir := b_l_zone) (sg := g_l_zone) rfl F26 (He.glo_ok X G (c.fact 26 (f := .glo "_law_zone") rfl)) sc_l_zone rfl (by decide) ok_l_zone (fun ds _ _ => rfl) fun _ _ _ _ _ _ us hl => match us, hl with | [_, _, _, _, _], _ => rfl
  have w28 : Gw P w K mg base T P28 28 := w27.next (N := N_l_houses) (ps := ["_law_words_here", "_law_nexts", "_law_ways", "_law_life"]) (F := f_l_houses) (ir := b_l_houses) (sg := g_l_houses) rfl F27 (He.glo_ok X G (c.fact 27 (f := .glo "_law_houses") rfl)) sc_l_houses rfl (by decide) ok_l_houses (fun ds _ _ => rfl) fun _ _ _ _ _ _ us hl => match us, hl with | [_, _, _, _], _ => rfl
  have w29 : Gw P w K mg base T P29 29 := w28.next (N := N_l_leads) (ps := ["_law_nexts", "_law_ways", "_law_at"]) (F := f_l_leads) (ir := b_l_leads) (sg := g_l_leads) rfl F28 (He.glo_ok X G (c.fact 28 (f := .glo "_law_leads") rfl)) sc_l_leads rfl (by decide) ok_l_leads (fun ds _ _ => rfl) fun _ _ _ _ _ _ us hl => match us, hl with | [_, _, _], _ => rfl
  have w30 : Gw P w K mg base T P30 30 := w29.next (N := N_l_due) (ps := ["_law_words_here", "_law_nexts", "_law_ways", "_law_k"]) (F := f_l_due) (ir := b_l_due) (sg := g_l_due) rfl F29 (He.glo_ok X G (c.fact 29 (f := .glo "_law_due") rfl)) sc_l_due rfl (by decide) ok_l_due (fun ds _ _ => rfl) fun _ _ _ _ _ _ us hl => match us, hl with | [_, _, _, _], _ => rfl
  exact law_end <| law_F (N := N_law) (F := f_law) (ir := b_law) (sg := g_law) w30 F30 sc_law rfl (by decide) ok_law (fun ds _ _ => rfl)
end NK44
end

section
set_option maxHeartbeats 0
open PySem PySem.W PySem.Calls PyProof.Rows
theorem PySem.Challenge.cw_namewell_k44_rings_and_the_lost_holds : PySem.Challenge.rw_namewell_k44_rings_and_the_lost.Holds := by
  w_on; o_law
  refine HandSHeadRun.head_any (r := OpenLaw.row PySem.Challenge.rw_namewell_k44_rings_and_the_lost) (q := view (OpenLaw.row PySem.Challenge.rw_namewell_k44_rings_and_the_lost).prog [35]) (H := NK44.hk) (ob := NK44.ob) (M := 4000) (loose := NK44.loose) (d := HandSHeadRun.topDef (OpenLaw.row PySem.Challenge.rw_namewell_k44_rings_and_the_lost).prog 35) (kwd := []) NK44.ob_eq
    (by kernel_rfl) (fun s => by kernel_rfl) NK44.run (by kernel_rfl) (by kernel_rfl) (by kernel_rfl) (by rfl) (by first | assumption | decide +kernel) (by decide +kernel) ⟨rfl, rfl, rfl, rfl, rfl, by decide +kernel⟩ ?hw ?hc
  case hw => w_witness2
  case hc =>
    refine L2.walk_ofE (l := PySem.Challenge.rw_namewell_k44_rings_and_the_lost) (n := 63) (k := 31) (x := "_law_script") (CX := L2.CX0) rfl (by decide) (by kernel_rfl) ⟨rfl, by decide, by decide⟩ ?F (fun _ _ _ _ z => z)
    intro w mg fa h Y G hmg0
    obtain ⟨K, KX, c, cx⟩ := Y
    have hmg : mg ("law" : PySem.Str) = some (.ref fa) := by
      have e : (HandSHeadRun.topDef (OpenLaw.row PySem.Challenge.rw_namewell_k44_rings_and_the_lost).prog 35).name = ("law" : PySem.Str) := by kernel_rfl
      rw [← e]
      exact hmg0
    obtain ⟨fd, hb, hF⟩ := NK44.facts (P := (PySem.Challenge.rw_namewell_k44_rings_and_the_lost).prog) (w := w) KX G hmg c cx
    exact ⟨K, fd, fun vs H Q _ => NW.spD K mg NK44.g_law NK44.f_law vs H Q (fun _ _ _ => False), KX, hb, fun H a ns hl _ hS => NW.law_sp (NK44.law_true ns hl) hS, hF⟩
end
