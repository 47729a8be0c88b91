import PyProof.Rows.All
import Wide.All
import OpenK.AllK
import Wide.FinOn
import HandS.ForMost
import HandS.IsInst
import HandS.Wide
import HandS.Style
import HandS.Defaults
import HandS.TupAny
import HandS.TupMul
import HandS.SortInts
import HandS.Deep
import HandS.RaiseMore
import KE.KTupSum
import PyProof.ReprRoads
import HandS.Zip
import HandS.Iter
import PyProof.ReprLen
import HandS.HeadEnd
import HandS.Head0
import HandS.Head1
import HandS.Head2
import HandS.HeadHook1
import HandS.HeadHook2
import KE.GoesMore
import HandS.Dict
import HandS.Conv
import KE.GoesNew
import HandS.Flt
import HandS.More
import HandS.NoneIn
import PyProof.FactsAll.list_3
import PyProof.FactsAll.list_4
import PySem.Challenge.RW_nonegrowsrich_k44_off_and_sure_of_ones
set_option hygiene false
local macro_rules | `(tactic| simp_arith [$ls,*]) => `(tactic| (try simp only [sE, List.map_cons, List.map_nil, List.cons_append, List.nil_append, List.length_cons, List.length_nil, Nat.reduceAdd, Nat.reduceSub, List.reduceReplicate, SV_seq, SV_nil, SV_break, SV_expr, SV_ret, SV_if, SV_asg, SV_par, SV_par3, SV_aug, SV_asgL, SV_for, EV_var, EV_c, EV_e2, EV_e1, EV_and, EV_or, EV_if, EV_tup, EV_fz, EV_bx, EV_cb, EV_sl, EV_call, EV_callK, EV_mt, EV_chain, TV_of, TV_and, TV_or, TV_not, TV_yes, AV_nil, AV_cons, AV_disp, AV_cb, AV_l2, AV_sl, AV_lc, OV_no, OV_some, GV_n, GV_t, GsV_nil, GsV_cons, GV_s, IV_seq, IV_rg1, IV_rg2, IV_enum, then_, BV_some, BV_ite, LBV_some, LBV_ite, r_add, r_addT, r_iadd, r_sub, r_mul, r_div, r_mod, r_pow, r_shl, r_neg, r_lt, r_le, r_gt, r_ge, r_eq, r_ne, r_eqS, r_neS, r_gabs, r_gmax, r_gmin, r_gintI, r_gintB, r_not, r_fn1, r_fn2, r_fnl1, r_lenT, r_lenL, r_lenR, r_tupT, r_tupL, r_tupR, r_listT, r_listL, r_listR, r_ixT, r_ixL, r_ixR, r_ixX, r_lenX, r_tupX, r_listX, r_seqT, r_seqL, r_seqR, r_seqX, r_isN, r_isNN, r_isB, r_slT, r_slL, r_slR, r_sumT, r_sumL, at_0, at_1, at_2, at_3, List.set_cons_zero, List.set_cons_succ, List.getElem?_cons_zero, List.getElem?_cons_succ, List.getElem?_nil, Option.some.injEq, Option.bind_some, Option.map_some, exists_eq_left, exists_eq_left', exists_and_left, D.int.injEq, D.bl.injEq, D.tup.injEq, D.ref.injEq, List.cons.injEq, and_assoc, true_and, and_true, decide_eq_true_eq, Bool.not_eq_true', decide_eq_false_iff_not, Bool.false_eq_true, not_true_eq_false, not_false_eq_true, if_false, if_true, ite_true, ite_false, reduceIte, r_addLL, r_mulLL, r_isTt, r_isTi, r_isTs, r_gsT, r_gsL, r_gsR, r_gsX, wipeE, $ls,*]))
local macro_rules | `(tactic| simp_arith! [$ls,*]) => `(tactic| (try simp only [sE, List.map_cons, List.map_nil, List.cons_append, List.nil_append, List.length_cons, List.length_nil, Nat.reduceAdd, Nat.reduceSub, List.reduceReplicate, SV_seq, SV_nil, SV_break, SV_expr, SV_ret, SV_if, SV_asg, SV_par, SV_par3, SV_aug, SV_asgL, SV_for, EV_var, EV_c, EV_e2, EV_e1, EV_and, EV_or, EV_if, EV_tup, EV_fz, EV_bx, EV_cb, EV_sl, EV_call, EV_callK, EV_mt, EV_chain, TV_of, TV_and, TV_or, TV_not, TV_yes, AV_nil, AV_cons, AV_disp, AV_cb, AV_l2, AV_sl, AV_lc, OV_no, OV_some, GV_n, GV_t, GsV_nil, GsV_cons, GV_s, IV_seq, IV_rg1, IV_rg2, IV_enum, then_, BV_some, BV_ite, LBV_some, LBV_ite, r_add, r_addT, r_iadd, r_sub, r_mul, r_div, r_mod, r_pow, r_shl, r_neg, r_lt, r_le, r_gt, r_ge, r_eq, r_ne, r_eqS, r_neS, r_gabs, r_gmax, r_gmin, r_gintI, r_gintB, r_not, r_fn1, r_fn2, r_fnl1, r_lenT, r_lenL, r_lenR, r_tupT, r_tupL, r_tupR, r_listT, r_listL, r_listR, r_ixT, r_ixL, r_ixR, r_ixX, r_lenX, r_tupX, r_listX, r_seqT, r_seqL, r_seqR, r_seqX, r_isN, r_isNN, r_isB, r_slT, r_slL, r_slR, r_sumT, r_sumL, at_0, at_1, at_2, at_3, List.set_cons_zero, List.set_cons_succ, List.getElem?_cons_zero, List.getElem?_cons_succ, List.getElem?_nil, Option.some.injEq, Option.bind_some, Option.map_some, exists_eq_left, exists_eq_left', exists_and_left, D.int.injEq, D.bl.injEq, D.tup.injEq, D.ref.injEq, List.cons.injEq, and_assoc, true_and, and_true, decide_eq_true_eq, Bool.not_eq_true', decide_eq_false_iff_not, Bool.false_eq_true, not_true_eq_false, not_false_eq_true, if_false, if_true, ite_true, ite_false, reduceIte, r_addLL, r_mulLL, r_isTt, r_isTi, r_isTs, r_gsT, r_gsL, r_gsR, r_gsX, wipeE, Wd, sz_0, sz_1, sz_2, sz_3, sz_4, sz_5, sz_6, m2_2, m1_2, m2_3, m1_3, m2_5, m1_5, r_in3, r_in2, beqS, decide_true, decide_false, Bool.or_false, Bool.true_or, Bool.or_true, Bool.false_or, stay_nil, LV_fold, r_min2L, r_max2L, EV_chain3, IV_rg3, AV_rg1, EV_dct, AV_rev, $ls,*]))
set_option Elab.async false
set_option linter.all false
set_option maxRecDepth 100000
namespace Pv
open PySem PySem.Spec PyProof.Rows L2

/-! pure data: what a value is worth; lst, dic: frozen ones; ref: a box that may change -/
inductive D where
  | non
  | bl (b : Bool)
  | int (i : Int)
  | str (x : Str)
  | tup (xs : List D)
  | lst (xs : List D)
  | rol (xs : List D)
  | dic (ks : List Key) (vs : List D)
  | ref (n : Nat)
inductive Ob where
  | lst (xs : List D)
abbrev Sto := List Ob
abbrev En := List (Option D)
structure M where
  r : Nat → Addr
  S : Sto
  H : Hp
structure C where
  K : PySem.W.Frag
  Z : List Addr
def Bx (m : M) (a : Addr) : Prop := ∃ i, i < m.S.length ∧ m.r i = a
def KL (K : PySem.W.Frag) (a : Addr) (xs : List V) : Prop :=
  ∃ (o : Obj) (its : Array Value) (n : Nat), K.lookup a = some o ∧ o.cls = .type "list" ∧ o.dict = none ∧ o.data = .seq its n ∧ its.size ≤ sizeLine ∧ Vals xs its.toList
def FzL (c : C) (m : M) (a : Addr) (xs : List V) : Prop := m.H a = some (.lst xs) ∧ ¬ Bx m a ∧ a ∉ c.Z
def RoL (c : C) (m : M) (a : Addr) (xs : List V) : Prop := (∃ o, m.H a = some (.frz o (.lst xs))) ∨ KL c.K a xs
theorem FzL.sq {c : C} {m : M} {a : Addr} {xs : List V} (h : FzL c m a xs) : SqL c.K m.H a xs := .inl (.inl h.1)
theorem RoL.sq {c : C} {m : M} {a : Addr} {xs : List V} (h : RoL c m a xs) : SqL c.K m.H a xs := by
  rcases h with h | h
  · exact .inl (.inr h)
  · exact .inr h
mutual
def Rep (c : C) (m : M) : D → V → Prop
  | .non, v => v = .non
  | .bl b, v => v = .bl b
  | .int i, v => v = .int i
  | .str x, v => v = .str x
  | .tup ds, v => ∃ a xs, v = .ref a ∧ SqT c.K m.H a xs ∧ RepL c m ds xs
  | .lst ds, v => ∃ a xs, v = .ref a ∧ FzL c m a xs ∧ RepL c m ds xs
  | .rol ds, v => ∃ a xs, v = .ref a ∧ RoL c m a xs ∧ RepL c m ds xs
  | .dic ks vs, v => ∃ a kvs, v = .ref a ∧ (m.H a = some (.dK kvs) ∧ ¬ Bx m a ∧ a ∉ c.Z) ∧ kvs.map (·.1) = ks ∧ RepL c m vs (kvs.map (·.2))
  | .ref n, v => n < m.S.length ∧ v = .ref (m.r n)
def RepL (c : C) (m : M) : List D → List V → Prop
  | [], xs => xs = []
  | d :: ds, xs => ∃ x r, xs = x :: r ∧ Rep c m d x ∧ RepL c m ds r
end
def ObR (c : C) (m : M) : Ob → Addr → Prop
  | .lst ds, a => ∃ xs, m.H a = some (.lst xs) ∧ RepL c m ds xs
structure Sim (c : C) (m : M) : Prop where
  inj : ∀ i j, i < m.S.length → j < m.S.length → m.r i = m.r j → i = j
  obj : ∀ i o, m.S[i]? = some o → ObR c m o (m.r i)
  zs : ∀ z, z ∈ c.Z → (∃ o, m.H z = some o) ∧ ¬ Bx m z
structure Ex (m m' : M) : Prop where
  le : m.S.length ≤ m'.S.length
  ag : ∀ i, i < m.S.length → m'.r i = m.r i
  pr : ∀ a o, m.H a = some o → ¬ Bx m a → m'.H a = some o
  nw : ∀ i, m.S.length ≤ i → i < m'.S.length → m.H (m'.r i) = none
structure Tr (c : C) (m m' : M) : Prop where
  ex : Ex m m'
  si : Sim c m'
section
variable {c : C} {m m' m'' : M}
theorem Sim.box (s : Sim c m) {i : Nat} (h : i < m.S.length) : ∃ ds xs, m.S[i]? = some (.lst ds) ∧ m.H (m.r i) = some (.lst xs) ∧ RepL c m ds xs := by
  obtain ⟨o, e⟩ : ∃ o, m.S[i]? = some o := ⟨m.S[i], List.getElem?_eq_getElem h⟩
  cases o with
  | lst ds =>
    obtain ⟨xs, h1, h2⟩ := s.obj i _ e
    exact ⟨ds, xs, e, h1, h2⟩
def BoxOk (m : M) : Prop := ∀ i, i < m.S.length → ∃ xs, m.H (m.r i) = some (.lst xs)
theorem Sim.bok (s : Sim c m) : BoxOk m := fun i hi => by
  obtain ⟨ds, xs, _, e, _⟩ := s.box hi
  exact ⟨xs, e⟩
theorem BoxOk.notTup (s : BoxOk m) {a : Addr} {xs : List V} (h : Rd m.H a (.tup xs)) : ¬ Bx m a := by
  rintro ⟨i, hi, e⟩
  obtain ⟨ys, e2⟩ := s i hi
  rw [e] at e2
  rcases h with h | ⟨o, h⟩
  · rw [e2] at h; cases h
  · rw [e2] at h; cases h
theorem BoxOk.notFrz (s : BoxOk m) {a : Addr} {o : Obj} {u : HO} (h : m.H a = some (.frz o u)) : ¬ Bx m a := by
  rintro ⟨i, hi, e⟩
  obtain ⟨ys, e2⟩ := s i hi
  rw [e, h] at e2
  cases e2
theorem Ex.rd (x : Ex m m') {a : Addr} {u : HO} (h : Rd m.H a u) (n : ¬ Bx m a) : Rd m'.H a u := by
  rcases h with h | ⟨o, h⟩
  · exact .inl (x.pr _ _ h n)
  · exact .inr ⟨o, x.pr _ _ h n⟩
theorem Rd.some {H : Hp} {a : Addr} {u : HO} (h : Rd H a u) : ∃ o, H a = some o := by
  rcases h with h | ⟨o, h⟩
  · exact ⟨_, h⟩
  · exact ⟨_, h⟩
theorem Ex.nbx (x : Ex m m') {a : Addr} {o : HO} (h : m.H a = some o) (n : ¬ Bx m a) : ¬ Bx m' a := by
  rintro ⟨i, hi, e⟩
  by_cases hl : i < m.S.length
  · exact n ⟨i, hl, by rw [← x.ag i hl]; exact e⟩
  · have := x.nw i (by omega) hi
    rw [e, h] at this
    cases this
mutual
theorem Rep.mono (s : BoxOk m) (x : Ex m m') : ∀ (d : D) (v : V), Rep c m d v → Rep c m' d v
  | .non, v, h => h
  | .bl _, v, h => h
  | .int _, v, h => h
  | .str _, v, h => h
  | .tup ds, v, h => by
    obtain ⟨a, xs, e, h1, h2⟩ := h
    refine ⟨a, xs, e, ?_, RepL.mono s x ds xs h2⟩
    rcases h1 with h1 | h1
    · exact .inl (x.rd h1 (s.notTup h1))
    · exact .inr h1
  | .lst ds, v, h => by
    obtain ⟨a, xs, e, h1, h2⟩ := h
    refine ⟨a, xs, e, ?_, RepL.mono s x ds xs h2⟩
    obtain ⟨h1, h3, h4⟩ := h1
    exact ⟨x.pr _ _ h1 h3, x.nbx h1 h3, h4⟩
  | .rol ds, v, h => by
    obtain ⟨a, xs, e, h1, h2⟩ := h
    refine ⟨a, xs, e, ?_, RepL.mono s x ds xs h2⟩
    rcases h1 with ⟨o, h1⟩ | h1
    · exact .inl ⟨o, x.pr _ _ h1 (s.notFrz h1)⟩
    · exact .inr h1
  | .dic ks vs, v, h => by
    obtain ⟨a, kvs, e, ⟨h1, h3, h4⟩, h5, h2⟩ := h
    exact ⟨a, kvs, e, ⟨x.pr _ _ h1 h3, x.nbx h1 h3, h4⟩, h5, RepL.mono s x vs _ h2⟩
  | .ref n, v, h => by
    obtain ⟨h1, h2⟩ := h
    exact ⟨Nat.lt_of_lt_of_le h1 x.le, by rw [x.ag n h1]; exact h2⟩
theorem RepL.mono (s : BoxOk m) (x : Ex m m') : ∀ (ds : List D) (vs : List V), RepL c m ds vs → RepL c m' ds vs
  | [], vs, h => h
  | d :: ds, vs, h => by
    obtain ⟨y, r, e, h1, h2⟩ := h
    exact ⟨y, r, e, Rep.mono s x d y h1, RepL.mono s x ds r h2⟩
end
theorem RepL.len : ∀ {ds : List D} {vs : List V}, RepL c m ds vs → vs.length = ds.length
  | [], vs, h => by rw [show vs = [] from h]; rfl
  | d :: ds, vs, h => by
    obtain ⟨y, r, e, h1, h2⟩ := h
    rw [e, List.length_cons, List.length_cons, RepL.len h2]
theorem RepL.app : ∀ {ds es : List D} {vs ws : List V}, RepL c m ds vs → RepL c m es ws → RepL c m (ds ++ es) (vs ++ ws)
  | [], es, vs, ws, h, k => by rw [show vs = [] from h]; exact k
  | d :: ds, es, vs, ws, h, k => by
    obtain ⟨y, r, e, h1, h2⟩ := h
    subst e
    exact ⟨y, r ++ ws, rfl, h1, RepL.app h2 k⟩
theorem RepL.one {d : D} {v : V} (h : Rep c m d v) : RepL c m [d] [v] := ⟨v, [], rfl, h, rfl⟩
theorem RepL.get : ∀ {ds : List D} {vs : List V} {i : Nat} {d : D}, RepL c m ds vs → ds[i]? = some d → ∃ v, vs[i]? = some v ∧ Rep c m d v
  | [], _, i, d, _, h => by simp at h
  | e :: ds, vs, 0, d, h, k => by
    obtain ⟨y, r, e, h1, h2⟩ := h
    simp at k
    subst k e
    exact ⟨y, rfl, h1⟩
  | e :: ds, vs, i + 1, d, h, k => by
    obtain ⟨y, r, e, h1, h2⟩ := h
    subst e
    obtain ⟨v, a, b⟩ := RepL.get (i := i) h2 (by simpa using k)
    exact ⟨v, by simpa using a, b⟩
theorem RepL.set {e : D} {w : V} (hw : Rep c m e w) : ∀ {ds : List D} {vs : List V} (i : Nat), RepL c m ds vs → RepL c m (ds.set i e) (vs.set i w)
  | [], vs, i, h => by rw [show vs = [] from h]; rfl
  | d :: ds, vs, 0, h => by
    obtain ⟨y, r, e, h1, h2⟩ := h
    subst e
    exact ⟨w, r, rfl, hw, h2⟩
  | d :: ds, vs, i + 1, h => by
    obtain ⟨y, r, e, h1, h2⟩ := h
    subst e
    exact ⟨y, r.set i w, rfl, h1, RepL.set hw i h2⟩
theorem RepL.take : ∀ {ds : List D} {vs : List V} (i : Nat), RepL c m ds vs → RepL c m (ds.take i) (vs.take i)
  | [], vs, i, h => by rw [show vs = [] from h]; simp [RepL]
  | d :: ds, vs, 0, h => by simp [RepL]
  | d :: ds, vs, i + 1, h => by
    obtain ⟨y, r, e, h1, h2⟩ := h
    subst e
    exact ⟨y, r.take i, rfl, h1, RepL.take i h2⟩
theorem RepL.drop : ∀ {ds : List D} {vs : List V} (i : Nat), RepL c m ds vs → RepL c m (ds.drop i) (vs.drop i)
  | [], vs, i, h => by rw [show vs = [] from h]; simp [RepL]
  | d :: ds, vs, 0, h => by simpa using h
  | d :: ds, vs, i + 1, h => by
    obtain ⟨y, r, e, h1, h2⟩ := h
    subst e
    simpa using RepL.drop i h2
theorem RepL.inj1 {ds : List D} {v w : V} {vs : List V} (h : RepL c m ds (v :: vs)) : ∃ d es, ds = d :: es ∧ Rep c m d v ∧ RepL c m es vs := by
  cases ds with
  | nil => cases (show v :: vs = [] from h)
  | cons d es =>
    obtain ⟨y, r, e, h1, h2⟩ := h
    cases e
    exact ⟨d, es, rfl, h1, h2⟩
theorem Ex.refl : Ex m m := ⟨Nat.le_refl _, fun _ _ => rfl, fun _ _ h _ => h, fun i h1 h2 => by omega⟩
/-- what was there is there -/
theorem Tr.there (s : Sim c m) (t : Tr c m m') {a : Addr} {o : HO} (h : m.H a = some o) : ∃ o', m'.H a = some o' := by
  by_cases hb : Bx m a
  · obtain ⟨i, hi, e⟩ := hb
    obtain ⟨ds, xs, _, e2, _⟩ := t.si.box (Nat.lt_of_lt_of_le hi t.ex.le)
    rw [t.ex.ag i hi, e] at e2
    exact ⟨_, e2⟩
  · exact ⟨o, t.ex.pr _ _ h hb⟩
theorem Tr.refl (s : Sim c m) : Tr c m m := ⟨.refl, s⟩
theorem Tr.trans (s : Sim c m) (t : Tr c m m') (u : Tr c m' m'') : Tr c m m'' where
  ex := {
    le := Nat.le_trans t.ex.le u.ex.le
    ag := fun i h => by rw [u.ex.ag i (Nat.lt_of_lt_of_le h t.ex.le), t.ex.ag i h]
    pr := fun a o h n => u.ex.pr _ _ (t.ex.pr _ _ h n) (t.ex.nbx h n)
    nw := fun i h1 h2 => by
      by_cases hl : i < m'.S.length
      · rw [u.ex.ag i hl]
        exact t.ex.nw i h1 hl
      · have e := u.ex.nw i (by omega) h2
        cases q : m.H (m''.r i) with
        | none => rfl
        | some o =>
          obtain ⟨o', e'⟩ := Tr.there s t q
          rw [e] at e'
          cases e' }
  si := u.si
theorem Tr.rep (s : Sim c m) (t : Tr c m m') {d : D} {v : V} (h : Rep c m d v) : Rep c m' d v := Rep.mono s.bok t.ex d v h
theorem Tr.repL (s : Sim c m) (t : Tr c m m') {d : List D} {v : List V} (h : RepL c m d v) : RepL c m' d v := RepL.mono s.bok t.ex d v h

/-- a new object that is not a box -/
theorem Ex.laid {p : Addr} {o : HO} (hp : m.H p = none) : Ex m ⟨m.r, m.S, upd m.H p o⟩ :=
  ⟨Nat.le_refl _, fun _ _ => rfl, fun a u h _ => by show upd m.H p o a = _; rw [upd_ne (ne_of_none h hp)]; exact h, fun i h1 h2 => by have h2 : i < m.S.length := h2; omega⟩
theorem ObR.mono (s : Sim c m) (x : Ex m m') {o : Ob} {a : Addr} (h : ObR c m o a) (k : ∀ u, m.H a = some u → m'.H a = some u) : ObR c m' o a := by
  cases o with
  | lst ds =>
    obtain ⟨xs, h1, h2⟩ := h
    exact ⟨xs, k _ h1, RepL.mono s.bok x ds xs h2⟩
theorem Tr.laid (s : Sim c m) {p : Addr} {o : HO} (hp : m.H p = none) : Tr c m ⟨m.r, m.S, upd m.H p o⟩ where
  ex := .laid hp
  si := {
    inj := s.inj
    obj := fun i u h => ObR.mono s (.laid hp) (s.obj i u h) fun w hw => by show upd m.H p o _ = _; rw [upd_ne (ne_of_none hw hp)]; exact hw
    zs := fun z hz => by
      obtain ⟨⟨u, hu⟩, hb⟩ := s.zs z hz
      refine ⟨⟨u, ?_⟩, hb⟩
      show upd m.H p o z = _
      rw [upd_ne (ne_of_none hu hp)]
      exact hu }
theorem Sim.fresh (s : Sim c m) {p : Addr} (hp : m.H p = none) : ¬ Bx m p ∧ p ∉ c.Z := by
  constructor
  · rintro ⟨i, hi, e⟩
    obtain ⟨ds, xs, _, e2, _⟩ := s.box hi
    rw [e, hp] at e2
    cases e2
  · intro hz
    obtain ⟨⟨u, hu⟩, _⟩ := s.zs p hz
    rw [hp] at hu
    cases hu
/-- a frozen list is made -/
theorem Rep.newLst (s : Sim c m) {p : Addr} {ds : List D} {xs : List V} (hp : m.H p = none) (h : RepL c m ds xs) : Rep c ⟨m.r, m.S, upd m.H p (.lst xs)⟩ (.lst ds) (.ref p) :=
  ⟨p, xs, rfl, ⟨upd_same, (s.fresh hp).1, (s.fresh hp).2⟩, RepL.mono s.bok (.laid hp) ds xs h⟩
theorem Rep.newTup (s : Sim c m) {p : Addr} {ds : List D} {xs : List V} (hp : m.H p = none) (h : RepL c m ds xs) : Rep c ⟨m.r, m.S, upd m.H p (.tup xs)⟩ (.tup ds) (.ref p) :=
  ⟨p, xs, rfl, .inl (.inl upd_same), RepL.mono s.bok (.laid hp) ds xs h⟩
/-- a box is made -/
def M.box (m : M) (p : Addr) (ds : List D) (xs : List V) : M := ⟨fun i => if i = m.S.length then p else m.r i, m.S ++ [.lst ds], upd m.H p (.lst xs)⟩
theorem Ex.box {p : Addr} {ds : List D} {xs : List V} (hp : m.H p = none) : Ex m (m.box p ds xs) where
  le := by show m.S.length ≤ (m.S ++ [Ob.lst ds]).length; simp
  ag := fun i h => by show (if i = m.S.length then p else m.r i) = _; rw [if_neg (by omega)]
  pr := fun a u h _ => by show upd m.H p _ a = _; rw [upd_ne (ne_of_none h hp)]; exact h
  nw := fun i h1 h2 => by
    have h2 : i < (m.S ++ [Ob.lst ds]).length := h2
    rw [List.length_append, List.length_singleton] at h2
    show m.H (if i = m.S.length then p else m.r i) = none
    rw [if_pos (by omega)]
    exact hp
theorem Tr.box (s : Sim c m) {p : Addr} {ds : List D} {xs : List V} (hp : m.H p = none) (h : RepL c m ds xs) : Tr c m (m.box p ds xs) where
  ex := .box hp
  si := {
    inj := fun i j hi hj e => by
      have hi : i < (m.S ++ [Ob.lst ds]).length := hi
      have hj : j < (m.S ++ [Ob.lst ds]).length := hj
      rw [List.length_append, List.length_singleton] at hi hj
      have e : (if i = m.S.length then p else m.r i) = (if j = m.S.length then p else m.r j) := e
      by_cases h1 : i = m.S.length <;> by_cases h2 : j = m.S.length
      · omega
      · rw [if_pos h1, if_neg h2] at e
        exact ((s.fresh hp).1 ⟨j, by omega, e.symm⟩).elim
      · rw [if_neg h1, if_pos h2] at e
        exact ((s.fresh hp).1 ⟨i, by omega, e⟩).elim
      · rw [if_neg h1, if_neg h2] at e
        exact s.inj i j (by omega) (by omega) e
    obj := fun i u e => by
      have e : (m.S ++ [Ob.lst ds])[i]? = some u := e
      by_cases hi : i < m.S.length
      · rw [List.getElem?_append_left hi] at e
        have q := ObR.mono (m' := m.box p ds xs) s (.box hp) (s.obj i u e) fun w hw => by show upd m.H p _ _ = _; rw [upd_ne (ne_of_none hw hp)]; exact hw
        have z : (m.box p ds xs).r i = m.r i := (Ex.box hp).ag i hi
        rw [z]
        exact q
      · rw [List.getElem?_append_right (by omega)] at e
        have hz : i - m.S.length = 0 := by
          rcases Nat.eq_zero_or_pos (i - m.S.length) with z | z
          · exact z
          · rw [List.getElem?_eq_none (by simp; omega)] at e
            cases e
        rw [hz] at e
        cases e
        have z : (m.box p ds xs).r i = p := by show (if i = m.S.length then p else m.r i) = p; rw [if_pos (by omega)]
        rw [z]
        exact ⟨xs, upd_same, RepL.mono s.bok (.box hp) ds xs h⟩
    zs := fun z hz => by
      obtain ⟨⟨u, hu⟩, hb⟩ := s.zs z hz
      refine ⟨⟨u, ?_⟩, (Ex.box hp).nbx hu hb⟩
      show upd m.H p _ z = _
      rw [upd_ne (ne_of_none hu hp)]
      exact hu }
/-- a box is written -/
def M.put (m : M) (n : Nat) (ds : List D) (xs : List V) : M := ⟨m.r, m.S.set n (.lst ds), upd m.H (m.r n) (.lst xs)⟩
theorem Ex.put {n : Nat} (hn : n < m.S.length) {ds : List D} {xs : List V} : Ex m (m.put n ds xs) where
  le := by show m.S.length ≤ (m.S.set n _).length; simp
  ag := fun _ _ => rfl
  pr := fun a u h nb => by
    show upd m.H (m.r n) _ a = _
    rw [upd_ne (fun e => nb ⟨n, hn, e.symm⟩)]
    exact h
  nw := fun i h1 h2 => by
    have h2 : i < (m.S.set n (.lst ds)).length := h2
    rw [List.length_set] at h2
    omega
theorem Tr.put (s : Sim c m) {n : Nat} (hn : n < m.S.length) {ds : List D} {xs : List V} (h : RepL c m ds xs) : Tr c m (m.put n ds xs) where
  ex := .put hn
  si := {
    inj := fun i j hi hj e => by
      have hi : i < (m.S.set n (.lst ds)).length := hi
      have hj : j < (m.S.set n (.lst ds)).length := hj
      rw [List.length_set] at hi hj
      exact s.inj i j hi hj e
    obj := fun i u e => by
      have e : (m.S.set n (.lst ds))[i]? = some u := e
      by_cases hi : n = i
      · subst hi
        rw [List.getElem?_set_self hn] at e
        cases e
        exact ⟨xs, upd_same, RepL.mono s.bok (.put hn) ds xs h⟩
      · rw [List.getElem?_set_ne hi] at e
        have hil : i < m.S.length := by
          rcases Nat.lt_or_ge i m.S.length with z | z
          · exact z
          · rw [List.getElem?_eq_none z] at e; cases e
        refine ObR.mono (m' := m.put n ds xs) s (.put hn) (s.obj i u e) fun w hw => ?_
        show upd m.H (m.r n) _ (m.r i) = _
        rw [upd_ne (fun z => hi (s.inj i n hil hn z).symm)]
        exact hw
    zs := fun z hz => by
      obtain ⟨⟨u, hu⟩, hb⟩ := s.zs z hz
      refine ⟨⟨u, ?_⟩, ?_⟩
      · show upd m.H (m.r n) _ z = _
        rw [upd_ne (fun e => hb ⟨n, hn, e.symm⟩)]
        exact hu
      · rintro ⟨i, hi, e⟩
        have hi : i < (m.S.set n (.lst ds)).length := hi
        rw [List.length_set] at hi
        exact hb ⟨i, hi, e⟩ }
/-! more addresses set apart; fewer -/
mutual
theorem Rep.widen {K : PySem.W.Frag} {Z Z' : List Addr} (hz : ∀ z, z ∈ Z' → z ∈ Z ∨ m.H z = none) : ∀ (d : D) (v : V), Rep ⟨K, Z⟩ m d v → Rep ⟨K, Z'⟩ m d v
  | .non, v, h => h
  | .bl _, v, h => h
  | .int _, v, h => h
  | .str _, v, h => h
  | .tup ds, v, h => by
    obtain ⟨a, xs, e, h1, h2⟩ := h
    exact ⟨a, xs, e, h1, RepL.widen hz ds xs h2⟩
  | .lst ds, v, h => by
    obtain ⟨a, xs, e, ⟨h1, h3, h4⟩, h2⟩ := h
    refine ⟨a, xs, e, ⟨h1, h3, fun z => ?_⟩, RepL.widen hz ds xs h2⟩
    rcases hz a z with q | q
    · exact h4 q
    · rw [h1] at q; cases q
  | .rol ds, v, h => by
    obtain ⟨a, xs, e, h1, h2⟩ := h
    exact ⟨a, xs, e, h1, RepL.widen hz ds xs h2⟩
  | .dic ks vs, v, h => by
    obtain ⟨a, kvs, e, ⟨h1, h3, h4⟩, h5, h2⟩ := h
    refine ⟨a, kvs, e, ⟨h1, h3, fun z => ?_⟩, h5, RepL.widen hz vs _ h2⟩
    rcases hz a z with q | q
    · exact h4 q
    · rw [h1] at q; cases q
  | .ref n, v, h => h
theorem RepL.widen {K : PySem.W.Frag} {Z Z' : List Addr} (hz : ∀ z, z ∈ Z' → z ∈ Z ∨ m.H z = none) : ∀ (ds : List D) (vs : List V), RepL ⟨K, Z⟩ m ds vs → RepL ⟨K, Z'⟩ m ds vs
  | [], vs, h => h
  | d :: ds, vs, h => by
    obtain ⟨y, r, e, h1, h2⟩ := h
    exact ⟨y, r, e, Rep.widen hz d y h1, RepL.widen hz ds r h2⟩
end
mutual
theorem Rep.narrow {K : PySem.W.Frag} {Z Z' : List Addr} (hz : ∀ z, z ∈ Z → z ∈ Z') : ∀ (d : D) (v : V), Rep ⟨K, Z'⟩ m d v → Rep ⟨K, Z⟩ m d v
  | .non, v, h => h
  | .bl _, v, h => h
  | .int _, v, h => h
  | .str _, v, h => h
  | .tup ds, v, h => by
    obtain ⟨a, xs, e, h1, h2⟩ := h
    exact ⟨a, xs, e, h1, RepL.narrow hz ds xs h2⟩
  | .lst ds, v, h => by
    obtain ⟨a, xs, e, ⟨h1, h3, h4⟩, h2⟩ := h
    exact ⟨a, xs, e, ⟨h1, h3, fun z => h4 (hz a z)⟩, RepL.narrow hz ds xs h2⟩
  | .rol ds, v, h => by
    obtain ⟨a, xs, e, h1, h2⟩ := h
    exact ⟨a, xs, e, h1, RepL.narrow hz ds xs h2⟩
  | .dic ks vs, v, h => by
    obtain ⟨a, kvs, e, ⟨h1, h3, h4⟩, h5, h2⟩ := h
    exact ⟨a, kvs, e, ⟨h1, h3, fun z => h4 (hz a z)⟩, h5, RepL.narrow hz vs _ h2⟩
  | .ref n, v, h => h
theorem RepL.narrow {K : PySem.W.Frag} {Z Z' : List Addr} (hz : ∀ z, z ∈ Z → z ∈ Z') : ∀ (ds : List D) (vs : List V), RepL ⟨K, Z'⟩ m ds vs → RepL ⟨K, Z⟩ m ds vs
  | [], vs, h => h
  | d :: ds, vs, h => by
    obtain ⟨y, r, e, h1, h2⟩ := h
    exact ⟨y, r, e, Rep.narrow hz d y h1, RepL.narrow hz ds r h2⟩
end
/-- an address put out of sight -/
def M.hide (m : M) (p : Addr) : M := ⟨m.r, m.S, fun a => if a = p then none else m.H a⟩
theorem M.hide_ne {p a : Addr} (h : a ≠ p) : (m.hide p).H a = m.H a := by show (if a = p then none else m.H a) = _; rw [if_neg h]
theorem M.hide_upd {p : Addr} {o : HO} (h : m.H p = some o) : upd (m.hide p).H p o = m.H := by
  funext a
  by_cases e : a = p
  · subst e; rw [upd_same, h]
  · rw [upd_ne e, M.hide_ne e]
mutual
theorem Rep.hide {K : PySem.W.Frag} {Z : List Addr} {p : Addr} {ys : List V} (hp : m.H p = some (.lst ys)) : ∀ (d : D) (v : V), Rep ⟨K, p :: Z⟩ m d v → Rep ⟨K, Z⟩ (m.hide p) d v
  | .non, v, h => h
  | .bl _, v, h => h
  | .int _, v, h => h
  | .str _, v, h => h
  | .tup ds, v, h => by
    obtain ⟨a, xs, e, h1, h2⟩ := h
    refine ⟨a, xs, e, ?_, RepL.hide hp ds xs h2⟩
    rcases h1 with h1 | h1
    · have hne : a ≠ p := fun z => by
        subst z
        rcases h1 with h1 | ⟨o, h1⟩ <;> (rw [hp] at h1; cases h1)
      refine .inl ?_
      rcases h1 with h1 | ⟨o, h1⟩
      · exact .inl (by rw [M.hide_ne hne]; exact h1)
      · exact .inr ⟨o, by rw [M.hide_ne hne]; exact h1⟩
    · exact .inr h1
  | .lst ds, v, h => by
    obtain ⟨a, xs, e, ⟨h1, h3, h4⟩, h2⟩ := h
    have hne : a ≠ p := fun z => h4 (by subst z; exact List.mem_cons_self ..)
    exact ⟨a, xs, e, ⟨by rw [M.hide_ne hne]; exact h1, h3, fun z => h4 (List.mem_cons_of_mem _ z)⟩, RepL.hide hp ds xs h2⟩
  | .rol ds, v, h => by
    obtain ⟨a, xs, e, h1, h2⟩ := h
    refine ⟨a, xs, e, ?_, RepL.hide hp ds xs h2⟩
    rcases h1 with ⟨o, h1⟩ | h1
    · have hne : a ≠ p := fun z => by
        subst z
        rw [hp] at h1; cases h1
      exact .inl ⟨o, by rw [M.hide_ne hne]; exact h1⟩
    · exact .inr h1
  | .dic ks vs, v, h => by
    obtain ⟨a, kvs, e, ⟨h1, h3, h4⟩, h5, h2⟩ := h
    have hne : a ≠ p := fun z => h4 (by subst z; exact List.mem_cons_self ..)
    exact ⟨a, kvs, e, ⟨by rw [M.hide_ne hne]; exact h1, h3, fun z => h4 (List.mem_cons_of_mem _ z)⟩, h5, RepL.hide hp vs _ h2⟩
  | .ref n, v, h => h
theorem RepL.hide {K : PySem.W.Frag} {Z : List Addr} {p : Addr} {ys : List V} (hp : m.H p = some (.lst ys)) : ∀ (ds : List D) (vs : List V), RepL ⟨K, p :: Z⟩ m ds vs → RepL ⟨K, Z⟩ (m.hide p) ds vs
  | [], vs, h => h
  | d :: ds, vs, h => by
    obtain ⟨y, r, e, h1, h2⟩ := h
    exact ⟨y, r, e, Rep.hide hp d y h1, RepL.hide hp ds r h2⟩
end
theorem Sim.hide {K : PySem.W.Frag} {Z : List Addr} {p : Addr} {ys : List V} (s : Sim ⟨K, p :: Z⟩ m) (hp : m.H p = some (.lst ys)) : Sim ⟨K, Z⟩ (m.hide p) ∨ p ∈ Z := by
  by_cases hpz : p ∈ Z
  · exact .inr hpz
  · refine .inl ⟨s.inj, fun i o h => ?_, fun z hz => ?_⟩
    · have h : m.S[i]? = some o := h
      have hb := (s.zs p (List.mem_cons_self ..)).2
      have hil : i < m.S.length := by
        rcases Nat.lt_or_ge i m.S.length with z | z
        · exact z
        · rw [List.getElem?_eq_none z] at h; cases h
      have q := s.obj i o h
      cases o with
      | lst ds =>
        obtain ⟨xs, h1, h2⟩ := q
        exact ⟨xs, by show (m.hide p).H (m.r i) = _; rw [M.hide_ne (fun e => hb ⟨i, hil, e⟩)]; exact h1, RepL.hide hp ds xs h2⟩
    · have hz : z ∈ Z := hz
      obtain ⟨⟨o, ho⟩, hb⟩ := s.zs z (List.mem_cons_of_mem _ hz)
      exact ⟨⟨o, by rw [M.hide_ne (fun e => hpz (by rw [← e]; exact hz))]; exact ho⟩, hb⟩
/-- one more address set apart -/
theorem Sim.apart {K : PySem.W.Frag} {Z : List Addr} {p : Addr} {ys : List V} (s : Sim ⟨K, Z⟩ m) (hp : m.H p = none) : Sim ⟨K, p :: Z⟩ ⟨m.r, m.S, upd m.H p (.lst ys)⟩ where
  inj := s.inj
  obj := fun i o h => by
    have q := s.obj i o h
    cases o with
    | lst ds =>
      obtain ⟨xs, h1, h2⟩ := q
      refine ⟨xs, by show upd m.H p _ _ = _; rw [upd_ne (ne_of_none h1 hp)]; exact h1, ?_⟩
      refine RepL.mono (m := m) s.bok (.laid hp) ds xs (RepL.widen (fun z hz => ?_) ds xs h2)
      rcases List.mem_cons.mp hz with e | e
      · exact .inr (e ▸ hp)
      · exact .inl e
  zs := fun z hz => by
    rcases List.mem_cons.mp hz with e | e
    · exact ⟨⟨_, by rw [e]; exact upd_same⟩, by rw [e]; exact (s.fresh hp).1⟩
    · obtain ⟨⟨o, ho⟩, hb⟩ := s.zs z e
      exact ⟨⟨o, by show upd m.H p _ _ = _; rw [upd_ne (ne_of_none ho hp)]; exact ho⟩, hb⟩
/-- what is set apart is written -/
def M.over (m : M) (p : Addr) (ys : List V) : M := ⟨m.r, m.S, upd m.H p (.lst ys)⟩
theorem M.over_eq {p : Addr} {ys : List V} : (⟨(m.hide p).r, (m.hide p).S, upd (m.hide p).H p (.lst ys)⟩ : M) = m.over p ys := by
  have e : upd (m.hide p).H p (.lst ys) = upd m.H p (.lst ys) := by
    funext a
    by_cases h : a = p
    · subst h; rw [upd_same, upd_same]
    · rw [upd_ne h, upd_ne h, M.hide_ne h]
  unfold M.over
  rw [e]
  rfl
theorem Sim.over {K : PySem.W.Frag} {Z : List Addr} {p : Addr} {ys zs : List V} (s : Sim ⟨K, p :: Z⟩ m) (hp : m.H p = some (.lst ys)) (hz : p ∉ Z) : Sim ⟨K, p :: Z⟩ (m.over p zs) := by
  rcases s.hide hp with h | h
  · rw [← M.over_eq]
    exact Sim.apart h (by show (if p = p then none else m.H p) = none; rw [if_pos rfl])
  · exact absurd h hz
theorem RepL.over {K : PySem.W.Frag} {Z : List Addr} {p : Addr} {ys zs : List V} (s : Sim ⟨K, p :: Z⟩ m) (hp : m.H p = some (.lst ys)) (hz : p ∉ Z) {ds : List D} {vs : List V} (h : RepL ⟨K, p :: Z⟩ m ds vs) : RepL ⟨K, p :: Z⟩ (m.over p zs) ds vs := by
  rcases s.hide hp with hs | hs
  · rw [← M.over_eq]
    have hn : (m.hide p).H p = none := by show (if p = p then none else m.H p) = none; rw [if_pos rfl]
    refine RepL.mono (m := m.hide p) hs.bok (.laid hn) ds vs (RepL.widen (fun z hz => ?_) ds vs (RepL.hide hp ds vs h))
    rcases List.mem_cons.mp hz with e | e
    · exact .inr (by rw [e]; exact hn)
    · exact .inl e
  · exact absurd hs hz
end
end Pv
set_option Elab.async false
set_option linter.all false
set_option maxRecDepth 100000
namespace Pv
open PySem PySem.Spec PyProof.Rows L2

abbrev EX := En → Sto → Option (D × Sto)
abbrev TX := En → Sto → Option (Bool × Sto)
abbrev AX := En → Sto → Option (List D × Sto)
abbrev GX := D → En → Sto → Option (En × Sto)
abbrev IX := En → Sto → Option (List D × List Nat × Sto)
inductive Out where
  | nx (e : En) (S : Sto)
  | rt (d : D) (S : Sto)
  | bk (e : En) (S : Sto)
  | ct (e : En) (S : Sto)
abbrev SX := En → Sto → Option Out

def ER (c : C) (m : M) (env : En) (σ : L2.St) : Prop := env.length = σ.length ∧ ∀ (i : Nat) (d : D), env[i]? = some (some d) → ∃ x, σ[i]? = some (some x) ∧ Rep c m d x
section
variable {c : C} {m m' : M} {env : En} {σ : L2.St}
theorem ER.tr (s : Sim c m) (t : Tr c m m') (h : ER c m env σ) : ER c m' env σ := ⟨h.1, fun i d e => by
  obtain ⟨x, h1, h2⟩ := h.2 i d e
  exact ⟨x, h1, t.rep s h2⟩⟩
theorem ER.set (h : ER c m env σ) {d : D} {x : V} (r : Rep c m d x) (i : Nat) : ER c m (env.set i (some d)) (σ.set i (some x)) := by
  refine ⟨by rw [List.length_set, List.length_set]; exact h.1, fun j e q => ?_⟩
  by_cases hj : i = j
  · subst hj
    have hl : i < env.length := by
      rcases Nat.lt_or_ge i env.length with z | z
      · exact z
      · rw [List.getElem?_eq_none (by rw [List.length_set]; exact z)] at q; cases q
    rw [List.getElem?_set_self hl] at q
    cases q
    exact ⟨x, by rw [List.getElem?_set_self (by rw [← h.1]; exact hl)], r⟩
  · rw [List.getElem?_set_ne hj] at q
    obtain ⟨y, h1, h2⟩ := h.2 j e q
    exact ⟨y, by rw [List.getElem?_set_ne hj]; exact h1, h2⟩
end
def tE (K : PySem.W.Frag) (f : EX) : TE := fun σ H Q => ∃ (Z : List Addr) (m : M) (env : En) (v : D) (S' : Sto), m.H = H ∧ Sim ⟨K, Z⟩ m ∧ ER ⟨K, Z⟩ m env σ ∧ f env m.S = some (v, S') ∧
  ∀ m' x, m'.S = S' → Tr ⟨K, Z⟩ m m' → Rep ⟨K, Z⟩ m' v x → Q x m'.H
def tT (K : PySem.W.Frag) (f : TX) : TT := fun σ H Q => ∃ (Z : List Addr) (m : M) (env : En) (b : Bool) (S' : Sto), m.H = H ∧ Sim ⟨K, Z⟩ m ∧ ER ⟨K, Z⟩ m env σ ∧ f env m.S = some (b, S') ∧
  ∀ m', m'.S = S' → Tr ⟨K, Z⟩ m m' → Q b m'.H
def tA (K : PySem.W.Frag) (f : AX) : TA := fun σ H Q => ∃ (Z : List Addr) (m : M) (env : En) (v : List D) (S' : Sto), m.H = H ∧ Sim ⟨K, Z⟩ m ∧ ER ⟨K, Z⟩ m env σ ∧ f env m.S = some (v, S') ∧
  ∀ m' x, m'.S = S' → Tr ⟨K, Z⟩ m m' → RepL ⟨K, Z⟩ m' v x → Q x m'.H
def tG (K : PySem.W.Frag) (vs : List Nat) (g : GX) : TG := fun x σ H Q => ∃ (Z : List Addr) (m : M) (env : En) (d : D) (env' : En) (S' : Sto), m.H = H ∧ Sim ⟨K, Z⟩ m ∧ ER ⟨K, Z⟩ m env σ ∧ Rep ⟨K, Z⟩ m d x ∧ g d env m.S = some (env', S') ∧
  ∀ m' σ', m'.S = S' → Tr ⟨K, Z⟩ m m' → ER ⟨K, Z⟩ m' env' σ' → (σ'.length = σ.length ∧ ∀ i, i ∉ vs → σ'[i]? = σ[i]?) → Q σ' m'.H
structure ItOk (K : PySem.W.Frag) (Z : List Addr) (m : M) (ds : List D) (gs : List Nat) (J : It) : Prop where
  go : ∀ Z' m', (∀ z, z ∈ Z → z ∈ Z') → (∀ z, z ∈ Z' → z ∈ Z ∨ m.H z = none) → Ex m m' → Sim ⟨K, Z'⟩ m' → (∀ n, n ∈ gs → m'.S[n]? = m.S[n]?) → ∀ i, (ds.length ≤ i → J.stop i m'.H) ∧
    ∀ d, ds[i]? = some d → J.go i m'.H ∧ ∀ x H3, J.yld i m'.H x H3 → ∃ m3 : M, m3.H = H3 ∧ m3.S = m'.S ∧ Tr ⟨K, Z'⟩ m' m3 ∧ Rep ⟨K, Z'⟩ m3 d x
def tI (K : PySem.W.Frag) (f : IX) : TI := fun σ H R => ∃ (Z : List Addr) (m : M) (env : En) (ds : List D) (gs : List Nat) (S' : Sto), m.H = H ∧ Sim ⟨K, Z⟩ m ∧ ER ⟨K, Z⟩ m env σ ∧ f env m.S = some (ds, gs, S') ∧
  ∀ m' J, m'.S = S' → Tr ⟨K, Z⟩ m m' → ItOk K Z m' ds gs J → R J m'.H
def Post (c : C) (m : M) (D : Ends) : Out → Prop
  | .nx e S => ∀ m' σ', m'.S = S → Tr c m m' → ER c m' e σ' → D.nx σ' m'.H
  | .rt d S => ∀ m' x, m'.S = S → Tr c m m' → Rep c m' d x → D.rt x m'.H
  | .bk e S => ∀ m' σ', m'.S = S → Tr c m m' → ER c m' e σ' → D.bk σ' m'.H
  | .ct e S => ∀ m' σ', m'.S = S → Tr c m m' → ER c m' e σ' → D.ct σ' m'.H
def tS (K : PySem.W.Frag) (b : SX) : TS := fun D σ H => ∃ (Z : List Addr) (m : M) (env : En) (o : Out), m.H = H ∧ Sim ⟨K, Z⟩ m ∧ ER ⟨K, Z⟩ m env σ ∧ b env m.S = some o ∧ Post ⟨K, Z⟩ m D o

abbrev EJ (X : Cx) (e : Expr) (f : EX) : Prop := PE X e (tE X.K f)
abbrev TJ (X : Cx) (e : Expr) (f : TX) : Prop := PT X e (tT X.K f)
abbrev AJ (X : Cx) (e : List Expr) (f : AX) : Prop := PA X e (tA X.K f)
abbrev GJ (X : Cx) (e : Expr) (vs : List Nat) (f : GX) : Prop := PG X e (tG X.K vs f)
abbrev IJ (X : Cx) (tg e : Expr) (f : IX) : Prop := PI X tg e (tI X.K f)
abbrev SJ (X : Cx) (s : Stmt) (b : SX) : Prop := PS X s (tS X.K b)
abbrev BJ (X : Cx) (s : List Stmt) (b : SX) : Prop := PSs X s (tS X.K b)

section
variable {X : Cx} {K : PySem.W.Frag}
theorem pe_wk {e : Expr} {t t' : TE} (h : PE X e t) (k : ∀ σ H Q, t' σ H Q → t σ H Q) : PE X e t' := ⟨fun pins s σ H Q I w => h.run pins s σ H Q I (k σ H Q w)⟩
theorem pt_wk {e : Expr} {t t' : TT} (h : PT X e t) (k : ∀ σ H Q, t' σ H Q → t σ H Q) : PT X e t' := ⟨fun pins s σ H Q I w => h.run pins s σ H Q I (k σ H Q w)⟩
theorem pw_wk {e : Expr} {t t' : TT} (h : PW X e t) (k : ∀ σ H Q, t' σ H Q → t σ H Q) : PW X e t' := ⟨fun wh pins s σ H Q I w => h.run wh pins s σ H Q I (k σ H Q w)⟩
theorem pa_wk {e : List Expr} {t t' : TA} (h : PA X e t) (k : ∀ σ H Q, t' σ H Q → t σ H Q) : PA X e t' := ⟨fun pos pins s σ H Q I w => h.run pos pins s σ H Q I (k σ H Q w)⟩
theorem pg_wk {e : Expr} {t t' : TG} (h : PG X e t) (k : ∀ v σ H Q, t' v σ H Q → t v σ H Q) : PG X e t' := ⟨fun pins s σ H v u Q I r w => h.run pins s σ H v u Q I r (k v σ H Q w)⟩
theorem pi_wk {tg e : Expr} {t t' : TI} (h : PI X tg e t) (k : ∀ σ H Q, t' σ H Q → t σ H Q) : PI X tg e t' := ⟨fun pins s σ H Q I w => h.run pins s σ H Q I (k σ H Q w)⟩
theorem ps_wk {e : Stmt} {t t' : TS} (h : PS X e t) (k : ∀ D σ H, t' D σ H → t D σ H) : PS X e t' := ⟨fun pins s σ H D I w => h.run pins s σ H D I (k D σ H w)⟩
theorem pss_wk {e : List Stmt} {t t' : TS} (h : PSs X e t) (k : ∀ D σ H, t' D σ H → t D σ H) : PSs X e t' := ⟨fun pins s σ H D I w => h.run pins s σ H D I (k D σ H w)⟩

/-! names and constants -/
def eVar (i : Nat) : EX := fun e S => match e[i]? with
  | some (some d) => some (d, S)
  | _ => none
theorem eVar_inv {i : Nat} {e : En} {S : Sto} {d : D} {S' : Sto} (h : eVar i e S = some (d, S')) : e[i]? = some (some d) ∧ S' = S := by
  unfold eVar at h
  split at h
  · rename_i d' q
    cases h
    exact ⟨q, rfl⟩
  · cases h
theorem ej_var {i : Nat} {x : Str} {pos : Pos} (hN : X.N[i]? = some x) (hv : Vis X.env.scope x) (hd : (x == ("__debug__" : Str)) = false) (hcd : (x == ("__classdict__" : Str)) = false) : EJ X (.Name x pos) (eVar i) :=
  pe_wk (pe_var hN hv hd hcd) fun σ H Q ⟨Z, m, env, v, S', e, s, er, hf, q⟩ => by
    subst e
    obtain ⟨h1, h2⟩ := eVar_inv hf
    obtain ⟨x, hx, r⟩ := er.2 i v h1
    exact ⟨x, hx, q m x h2.symm (.refl s) r⟩
def eC (d : D) : EX := fun _ S => some (d, S)
theorem ej_c {e : Expr} {v : V} {d : D} (h : PE X e (tC v)) (r : ∀ c m, Rep c m d v) : EJ X e (eC d) :=
  pe_wk h fun σ H Q ⟨Z, m, env, v', S', e, s, er, hf, q⟩ => by
    subst e
    cases hf
    exact q m v rfl (.refl s) (r _ _)
theorem ej_int {i : Int} {j pos} : EJ X (.Constant (.int i) j pos) (eC (.int i)) := ej_c pe_int fun _ _ => rfl
theorem ej_bl {i : Bool} {j pos} : EJ X (.Constant (.bool i) j pos) (eC (.bl i)) := ej_c pe_bl fun _ _ => rfl
theorem ej_non {j pos} : EJ X (.Constant .none j pos) (eC .non) := ej_c pe_non fun _ _ => rfl
theorem ej_str {x : Str} {j pos} : EJ X (.Constant (.str x) j pos) (eC (.str x)) := ej_c pe_str fun _ _ => rfl
/-! a module's constant -/
def KR (K : PySem.W.Frag) (d : D) (v : V) : Prop := ∀ Z m, Rep ⟨K, Z⟩ m d v
theorem ej_glob {x : Str} {v : V} {u : Value} {d : D} {pos : Pos} (hg : Gl X x) (hm : X.mg x = some u) (r : RelV v u) (k : KR X.K d v) (hd : (x == ("__debug__" : Str)) = false) : EJ X (.Name x pos) (eC d) :=
  pe_wk (pe_glob hg hm r hd) fun σ H Q ⟨Z, m, env, v', S', e, s, er, hf, q⟩ => by
    subst e
    cases hf
    exact q m v rfl (.refl s) (k _ _)

/-! operators -/
abbrev F2 := Sto → D → D → Option D
abbrev F1 := Sto → D → Option D
def e2 (f : F2) (a b : EX) : EX := fun e S => (a e S).bind fun p => (b e p.2).bind fun q => (f q.2 p.1 q.1).map fun d => (d, q.2)
def e1 (f : F1) (a : EX) : EX := fun e S => (a e S).bind fun p => (f p.2 p.1).map fun d => (d, p.2)
theorem e2_inv {f : F2} {a b : EX} {e : En} {S S' : Sto} {v : D} (h : e2 f a b e S = some (v, S')) : ∃ x S1 y, a e S = some (x, S1) ∧ b e S1 = some (y, S') ∧ f S' x y = some v := by
  unfold e2 at h
  obtain ⟨⟨x, S1⟩, h1, h⟩ := Option.bind_eq_some_iff.mp h
  obtain ⟨⟨y, S2⟩, h2, h⟩ := Option.bind_eq_some_iff.mp h
  obtain ⟨d, h3, h⟩ := Option.map_eq_some_iff.mp h
  cases h
  exact ⟨x, S1, y, h1, h2, h3⟩
theorem e1_inv {f : F1} {a : EX} {e : En} {S S' : Sto} {v : D} (h : e1 f a e S = some (v, S')) : ∃ x, a e S = some (x, S') ∧ f S' x = some v := by
  unfold e1 at h
  obtain ⟨⟨x, S1⟩, h1, h⟩ := Option.bind_eq_some_iff.mp h
  obtain ⟨d, h3, h⟩ := Option.map_eq_some_iff.mp h
  cases h
  exact ⟨x, h1, h3⟩
/-- what a two-place operation asks, over data -/
def r2 (K : PySem.W.Frag) (f : F2) : R2 := fun x y H Q => ∃ (Z : List Addr) (m : M) (a b d : D), m.H = H ∧ Sim ⟨K, Z⟩ m ∧ Rep ⟨K, Z⟩ m a x ∧ Rep ⟨K, Z⟩ m b y ∧ f m.S a b = some d ∧
  ∀ m' v, m'.S = m.S → Tr ⟨K, Z⟩ m m' → Rep ⟨K, Z⟩ m' d v → Q v m'.H
def r1 (K : PySem.W.Frag) (f : F1) : V → Hp → VK → Prop := fun x H Q => ∃ (Z : List Addr) (m : M) (a d : D), m.H = H ∧ Sim ⟨K, Z⟩ m ∧ Rep ⟨K, Z⟩ m a x ∧ f m.S a = some d ∧
  ∀ m' v, m'.S = m.S → Tr ⟨K, Z⟩ m m' → Rep ⟨K, Z⟩ m' d v → Q v m'.H
theorem te_op {f : F2} {fa fb : EX} {σ : L2.St} {H : Hp} {Q : VK} (h : tE K (e2 f fa fb) σ H Q) : tOp (r2 K f) (tE K fa) (tE K fb) σ H Q := by
  obtain ⟨Z, m, env, v, S', e, s, er, hf, q⟩ := h
  obtain ⟨x, S1, y, h1, h2, h3⟩ := e2_inv hf
  refine ⟨Z, m, env, x, S1, e, s, er, h1, fun m1 vx e1 t1 rx => ?_⟩
  refine ⟨Z, m1, env, y, S', rfl, t1.si, er.tr s t1, by rw [e1]; exact h2, fun m2 vy e2 t2 ry => ?_⟩
  refine ⟨Z, m2, x, y, v, rfl, t2.si, t2.rep t1.si rx, ry, by rw [e2]; exact h3, fun m3 w e3 t3 rw => ?_⟩
  exact q m3 w (e3.trans e2) ((t1.trans s t2).trans s t3) rw
theorem te_un {f : F1} {fa : EX} {σ : L2.St} {H : Hp} {Q : VK} (h : tE K (e1 f fa) σ H Q) : tUn (r1 K f) (tE K fa) σ H Q := by
  obtain ⟨Z, m, env, v, S', e, s, er, hf, q⟩ := h
  obtain ⟨x, h1, h3⟩ := e1_inv hf
  refine ⟨Z, m, env, x, S', e, s, er, h1, fun m1 vx e1 t1 rx => ?_⟩
  refine ⟨Z, m1, x, v, rfl, t1.si, rx, by rw [e1]; exact h3, fun m3 w e3 t3 rw => ?_⟩
  exact q m3 w (e3.trans e1) (t1.trans s t3) rw
variable {a b : Expr} {pos : Pos} {fa fb : EX}
theorem ej_op {op : Operator} {f : F2} (ho : OpR X (binaryOp op) (r2 X.K f)) (ha : EJ X a fa) (hb : EJ X b fb) : EJ X (.BinOp a op b pos) (e2 f fa fb) := pe_wk (pe_op ho ha hb) fun _ _ _ h => te_op h
theorem ej_un {op : UnaryOp} {f : F1} (ho : UnR X (unaryOp op) (r1 X.K f)) (ha : EJ X a fa) : EJ X (.UnaryOp op a pos) (e1 f fa) := pe_wk (pe_un ho ha) fun _ _ _ h => te_un h
theorem ej_cmp {op : CmpOp} {f : F2} (ho : OpR X (compareOp op) (r2 X.K f)) (ha : EJ X a fa) (hb : EJ X b fb) (hm : behindInMarks op b = false) : EJ X (.Compare a [op] [b] pos) (e2 f fa fb) := pe_wk (pe_cmpR ho ha hb hm) fun _ _ _ h => te_op h
/-- an expression as a test: it tells a bool -/
def tOf (f : EX) : TX := fun e S => (f e S).bind fun p => match p.1 with
  | .bl b => some (b, p.2)
  | _ => none
theorem tOf_inv {f : EX} {e : En} {S S' : Sto} {b : Bool} (h : tOf f e S = some (b, S')) : f e S = some (.bl b, S') := by
  unfold tOf at h
  obtain ⟨⟨x, S1⟩, h1, h⟩ := Option.bind_eq_some_iff.mp h
  cases x with
  | bl c => cases h; exact h1
  | _ => cases h
theorem tt_test {f : EX} {σ : L2.St} {H : Hp} {Q : Bool → Hp → Prop} (h : tT K (tOf f) σ H Q) : tTest (tE K f) σ H Q := by
  obtain ⟨Z, m, env, v, S', e, s, er, hf, q⟩ := h
  exact ⟨Z, m, env, .bl v, S', e, s, er, tOf_inv hf, fun m1 vx e1 t1 rx => ⟨v, rx, q m1 e1 t1⟩⟩
theorem tj_cmp {op : CmpOp} {f : F2} (ho : OpR X (compareOp op) (r2 X.K f)) (ha : EJ X a fa) (hb : EJ X b fb) (hm : behindInMarks op b = false) : TJ X (.Compare a [op] [b] pos) (tOf (e2 f fa fb)) := by
  refine pt_wk (pt_cmpR ho ha hb hm) fun σ H Q h => ?_
  obtain ⟨Z, m, env, v, S', e, s, er, hf, q⟩ := h
  exact te_op ⟨Z, m, env, .bl v, S', e, s, er, tOf_inv hf, fun m1 vx e1 t1 rx => ⟨v, rx, q m1 e1 t1⟩⟩
theorem tj_val {e : Expr} {f : EX} (h : EJ X e f) (he : ∀ whole, isTrue e X.env whole = (do let v ← whole; standAt e.pos; holding [v] (truthy v)) := by intro _; rfl) : TJ X e (tOf f) := pt_wk (pt_val h he) fun _ _ _ h => tt_test h
/-- and, or, not as tests -/
def tAnd' (f g : TX) : TX := fun e S => (f e S).bind fun p => if p.1 = true then g e p.2 else some (false, p.2)
def tOr' (f g : TX) : TX := fun e S => (f e S).bind fun p => if p.1 = true then some (true, p.2) else g e p.2
def tNot' (f : TX) : TX := fun e S => (f e S).map fun p => (!p.1, p.2)
theorem tt_and {f g : TX} {σ : L2.St} {H : Hp} {Q : Bool → Hp → Prop} (h : tT K (tAnd' f g) σ H Q) : tAnd (tT K f) (tT K g) σ H Q := by
  obtain ⟨Z, m, env, v, S', e, s, er, hf, q⟩ := h
  unfold tAnd' at hf
  obtain ⟨⟨x, S1⟩, h1, h⟩ := Option.bind_eq_some_iff.mp hf
  refine ⟨Z, m, env, x, S1, e, s, er, h1, fun m1 e1 t1 => ?_⟩
  cases x with
  | true => exact ⟨Z, m1, env, v, S', rfl, t1.si, er.tr s t1, by rw [e1]; exact h, fun m2 e2 t2 => q m2 e2 (t1.trans s t2)⟩
  | false => cases h; exact q m1 e1 t1
theorem tt_or {f g : TX} {σ : L2.St} {H : Hp} {Q : Bool → Hp → Prop} (h : tT K (tOr' f g) σ H Q) : tOr (tT K f) (tT K g) σ H Q := by
  obtain ⟨Z, m, env, v, S', e, s, er, hf, q⟩ := h
  unfold tOr' at hf
  obtain ⟨⟨x, S1⟩, h1, h⟩ := Option.bind_eq_some_iff.mp hf
  refine ⟨Z, m, env, x, S1, e, s, er, h1, fun m1 e1 t1 => ?_⟩
  cases x with
  | false => exact ⟨Z, m1, env, v, S', rfl, t1.si, er.tr s t1, by rw [e1]; exact h, fun m2 e2 t2 => q m2 e2 (t1.trans s t2)⟩
  | true => cases h; exact q m1 e1 t1
abbrev WJ (X : Cx) (e : Expr) (f : TX) : Prop := PW X e (tT X.K f)
variable {rest : List Expr} {f g : TX}
theorem wj_and1 (h : TJ X a f) : WJ X (.BoolOp .And [a] pos) f := pw_and1 h
theorem wj_or1 (h : TJ X a f) : WJ X (.BoolOp .Or [a] pos) f := pw_or1 h
theorem wj_and (h : TJ X a f) (k : WJ X (.BoolOp .And (b :: rest) pos) g) : WJ X (.BoolOp .And (a :: b :: rest) pos) (tAnd' f g) := pw_wk (pw_and h k) fun _ _ _ h => tt_and h
theorem wj_or (h : TJ X a f) (k : WJ X (.BoolOp .Or (b :: rest) pos) g) : WJ X (.BoolOp .Or (a :: b :: rest) pos) (tOr' f g) := pw_wk (pw_or h k) fun _ _ _ h => tt_or h
theorem tj_not (h : TJ X a f) : TJ X (.UnaryOp .Not a pos) (tNot' f) := pt_wk (pt_not h) fun σ H Q ⟨Z, m, env, v, S', e, s, er, hf, q⟩ => by
  unfold tNot' at hf
  obtain ⟨⟨x, S1⟩, h1, h⟩ := Option.map_eq_some_iff.mp hf
  cases h
  exact ⟨Z, m, env, x, _, e, s, er, h1, q⟩
/-- .. as values of bools -/
def eAnd (f g : EX) : EX := fun e S => (f e S).bind fun p => match p.1 with
  | .bl true => g e p.2
  | .bl false => some (.bl false, p.2)
  | _ => none
def eOr (f g : EX) : EX := fun e S => (f e S).bind fun p => match p.1 with
  | .bl true => some (.bl true, p.2)
  | .bl false => g e p.2
  | _ => none
def fNot : F1 := fun _ d => match d with
  | .bl b => some (.bl (!b))
  | _ => none
theorem ej_one {op} {f : EX} (h : EJ X a f) : EJ X (.BoolOp op [a] pos) f := pe_one h
theorem ej_and {f g : EX} (h : EJ X a f) (k : EJ X (.BoolOp .And (b :: rest) pos) g) : EJ X (.BoolOp .And (a :: b :: rest) pos) (eAnd f g) := pe_wk (pe_and h k) fun σ H Q ⟨Z, m, env, v, S', e, s, er, hf, q⟩ => by
  unfold eAnd at hf
  obtain ⟨⟨x, S1⟩, h1, h⟩ := Option.bind_eq_some_iff.mp hf
  refine ⟨Z, m, env, x, S1, e, s, er, h1, fun m1 vx e1 t1 rx => ?_⟩
  cases x with
  | bl c =>
    refine ⟨c, rx, ?_⟩
    cases c with
    | true => exact ⟨Z, m1, env, v, S', rfl, t1.si, er.tr s t1, by rw [e1]; exact h, fun m2 x e2 t2 => q m2 x e2 (t1.trans s t2)⟩
    | false => cases h; exact q m1 _ e1 t1 rfl
  | _ => cases h
theorem ej_or {f g : EX} (h : EJ X a f) (k : EJ X (.BoolOp .Or (b :: rest) pos) g) : EJ X (.BoolOp .Or (a :: b :: rest) pos) (eOr f g) := pe_wk (pe_or h k) fun σ H Q ⟨Z, m, env, v, S', e, s, er, hf, q⟩ => by
  unfold eOr at hf
  obtain ⟨⟨x, S1⟩, h1, h⟩ := Option.bind_eq_some_iff.mp hf
  refine ⟨Z, m, env, x, S1, e, s, er, h1, fun m1 vx e1 t1 rx => ?_⟩
  cases x with
  | bl c =>
    refine ⟨c, rx, ?_⟩
    cases c with
    | false => exact ⟨Z, m1, env, v, S', rfl, t1.si, er.tr s t1, by rw [e1]; exact h, fun m2 x e2 t2 => q m2 x e2 (t1.trans s t2)⟩
    | true => cases h; exact q m1 _ e1 t1 rfl
  | _ => cases h
theorem ej_not {f : EX} (h : EJ X a f) : EJ X (.UnaryOp .Not a pos) (e1 fNot f) := pe_wk (pe_not h) fun σ H Q ⟨Z, m, env, v, S', e, s, er, hf, q⟩ => by
  obtain ⟨x, h1, h3⟩ := e1_inv hf
  refine ⟨Z, m, env, x, S', e, s, er, h1, fun m1 vx e1 t1 rx => ?_⟩
  cases x with
  | bl c => cases h3; exact ⟨c, rx, q m1 _ e1 t1 rfl⟩
  | _ => cases h3
/-- a if t else b -/
def eIf (t : TX) (f g : EX) : EX := fun e S => (t e S).bind fun p => if p.1 = true then f e p.2 else g e p.2
theorem ej_if {c : Expr} {t : TX} {f g : EX} (hc : TJ X c t) (h : EJ X a f) (k : EJ X b g) : EJ X (.IfExp c a b pos) (eIf t f g) := pe_wk (pe_ifExp hc h k) fun σ H Q ⟨Z, m, env, v, S', e, s, er, hf, q⟩ => by
  unfold eIf at hf
  obtain ⟨⟨x, S1⟩, h1, h⟩ := Option.bind_eq_some_iff.mp hf
  refine ⟨Z, m, env, x, S1, e, s, er, h1, fun m1 e1 t1 => ?_⟩
  cases x with
  | true => exact ⟨Z, m1, env, v, S', rfl, t1.si, er.tr s t1, by rw [e1]; exact h, fun m2 x e2 t2 => q m2 x e2 (t1.trans s t2)⟩
  | false => exact ⟨Z, m1, env, v, S', rfl, t1.si, er.tr s t1, by rw [e1]; exact h, fun m2 x e2 t2 => q m2 x e2 (t1.trans s t2)⟩
/-! argument lists -/
def aNil : AX := fun _ S => some ([], S)
def aCons (f : EX) (g : AX) : AX := fun e S => (f e S).bind fun p => (g e p.2).map fun q => (p.1 :: q.1, q.2)
theorem aCons_inv {f : EX} {g : AX} {e : En} {S S' : Sto} {v : List D} (h : aCons f g e S = some (v, S')) : ∃ x S1 r, f e S = some (x, S1) ∧ g e S1 = some (r, S') ∧ v = x :: r := by
  unfold aCons at h
  obtain ⟨⟨x, S1⟩, h1, h⟩ := Option.bind_eq_some_iff.mp h
  obtain ⟨⟨r, S2⟩, h2, h⟩ := Option.map_eq_some_iff.mp h
  cases h
  exact ⟨x, S1, r, h1, h2, rfl⟩
variable {es : List Expr} {ga : AX}
theorem aj_nil : AJ X [] aNil := pa_wk pa_nil fun σ H Q ⟨Z, m, env, v, S', e, s, er, hf, q⟩ => by
  subst e
  cases hf
  exact q m [] rfl (.refl s) rfl
theorem aj_cons (h : EJ X a fa) (k : AJ X es ga) (hs : starEach (a :: es) X.env = (false, eval a X.env) :: starEach es X.env := by rfl) : AJ X (a :: es) (aCons fa ga) := pa_wk (pa_cons h k hs) fun σ H Q ⟨Z, m, env, v, S', e, s, er, hf, q⟩ => by
  obtain ⟨x, S1, r, h1, h2, rfl⟩ := aCons_inv hf
  refine ⟨Z, m, env, x, S1, e, s, er, h1, fun m1 vx e1 t1 rx => ?_⟩
  refine ⟨Z, m1, env, r, S', rfl, t1.si, er.tr s t1, by rw [e1]; exact h2, fun m2 vy e2 t2 ry => ?_⟩
  exact q m2 _ e2 (t1.trans s t2) ⟨vx, vy, rfl, t2.rep t1.si rx, ry⟩
/-! displays -/
def szOk (n : Nat) : Bool := decide (n ≤ 16777216)
theorem szOk_le {n : Nat} (h : szOk n = true) : n ≤ sizeLine := by
  have := of_decide_eq_true h
  rw [sizeLine_eq]
  exact this
def eTup (g : AX) : EX := fun e S => (g e S).bind fun p => if szOk p.1.length = true then some (.tup p.1, p.2) else none
theorem ej_tup {x1} (h : AJ X es ga) : EJ X (.Tuple es x1 pos) (eTup ga) := pe_wk (pe_tup h) fun σ H Q ⟨Z, m, env, v, S', e, s, er, hf, q⟩ => by
  unfold eTup at hf
  obtain ⟨⟨x, S1⟩, h1, h⟩ := Option.bind_eq_some_iff.mp hf
  refine ⟨Z, m, env, x, S1, e, s, er, h1, fun m1 vx e1 t1 rx => ?_⟩
  split at h
  · rename_i hz
    cases h
    refine ⟨by rw [rx.len]; exact szOk_le hz, fun p hp => ?_⟩
    exact q ⟨m1.r, m1.S, upd m1.H p (.tup vx)⟩ (.ref p) e1 (t1.trans s (Tr.laid t1.si hp)) (Rep.newTup t1.si hp rx)
  · cases h
/-- a list maker: what comes new, its items -/
abbrev LX := AX
def tL (K : PySem.W.Frag) (f : LX) : TE := fun σ H Q => ∃ (Z : List Addr) (m : M) (env : En) (v : List D) (S' : Sto), m.H = H ∧ Sim ⟨K, Z⟩ m ∧ ER ⟨K, Z⟩ m env σ ∧ f env m.S = some (v, S') ∧
  ∀ m' p x, m'.S = S' → Tr ⟨K, Z⟩ m m' → RepL ⟨K, Z⟩ m' v x → m'.H p = none → Q (.ref p) (upd m'.H p (.lst x))
abbrev LJ (X : Cx) (e : Expr) (f : LX) : Prop := PE X e (tL X.K f)
/-- .. frozen; .. in a box -/
def eFz (f : LX) : EX := fun e S => (f e S).map fun p => (.lst p.1, p.2)
def eBx (f : LX) : EX := fun e S => (f e S).map fun p => (.ref p.2.length, p.2 ++ [.lst p.1])
theorem tl_fz {f : LX} {σ : L2.St} {H : Hp} {Q : VK} (h : tE K (eFz f) σ H Q) : tL K f σ H Q := by
  obtain ⟨Z, m, env, v, S', e, s, er, hf, q⟩ := h
  unfold eFz at hf
  obtain ⟨⟨x, S1⟩, h1, h⟩ := Option.map_eq_some_iff.mp hf
  cases h
  exact ⟨Z, m, env, x, _, e, s, er, h1, fun m1 p vx e1 t1 rx hp => q ⟨m1.r, m1.S, upd m1.H p (.lst vx)⟩ (.ref p) e1 (t1.trans s (Tr.laid t1.si hp)) (Rep.newLst t1.si hp rx)⟩
theorem tl_bx {f : LX} {σ : L2.St} {H : Hp} {Q : VK} (h : tE K (eBx f) σ H Q) : tL K f σ H Q := by
  obtain ⟨Z, m, env, v, S', e, s, er, hf, q⟩ := h
  unfold eBx at hf
  obtain ⟨⟨x, S1⟩, h1, h⟩ := Option.map_eq_some_iff.mp hf
  cases h
  refine ⟨Z, m, env, x, S1, e, s, er, h1, fun m1 p vx e1 t1 rx hp => q (m1.box p x vx) (.ref p) (by show m1.S ++ _ = _; rw [e1]) (t1.trans s (Tr.box t1.si hp rx)) ⟨?_, ?_⟩⟩
  · show S1.length < (m1.S ++ [Ob.lst x]).length
    rw [e1]
    simp
  · show V.ref p = V.ref (if S1.length = m1.S.length then p else m1.r S1.length)
    rw [e1, if_pos rfl]
theorem ej_fz {e : Expr} {f : LX} (h : LJ X e f) : EJ X e (eFz f) := pe_wk h fun _ _ _ h => tl_fz h
theorem ej_bx {e : Expr} {f : LX} (h : LJ X e f) : EJ X e (eBx f) := pe_wk h fun _ _ _ h => tl_bx h
def lDisp (g : AX) : LX := fun e S => (g e S).bind fun p => if szOk p.1.length = true then some p else none
theorem lj_disp (h : AJ X es ga) : LJ X (.List es pos) (lDisp ga) := pe_wk (pe_lst h) fun σ H Q ⟨Z, m, env, v, S', e, s, er, hf, q⟩ => by
  unfold lDisp at hf
  obtain ⟨⟨x, S1⟩, h1, h⟩ := Option.bind_eq_some_iff.mp hf
  split at h
  · rename_i hz
    cases h
    exact ⟨Z, m, env, _, _, e, s, er, h1, fun m1 vx e1 t1 rx => ⟨by rw [rx.len]; exact szOk_le hz, fun p hp => q m1 p vx e1 t1 rx hp⟩⟩
  · cases h
/-! calls of built-ins by name, of types -/
abbrev FN := Sto → List D → Option D
def eCB (f : FN) (g : AX) : EX := fun e S => (g e S).bind fun p => (f p.2 p.1).map fun d => (d, p.2)
def rN (K : PySem.W.Frag) (f : FN) : List V → Hp → VK → Prop := fun xs H Q => ∃ (Z : List Addr) (m : M) (as : List D) (d : D), m.H = H ∧ Sim ⟨K, Z⟩ m ∧ RepL ⟨K, Z⟩ m as xs ∧ f m.S as = some d ∧
  ∀ m' v, m'.S = m.S → Tr ⟨K, Z⟩ m m' → Rep ⟨K, Z⟩ m' d v → Q v m'.H
theorem te_cb {f : FN} {g : AX} {σ : L2.St} {H : Hp} {Q : VK} (h : tE K (eCB f g) σ H Q) : tCB (rN K f) (tA K g) σ H Q := by
  obtain ⟨Z, m, env, v, S', e, s, er, hf, q⟩ := h
  unfold eCB at hf
  obtain ⟨⟨x, S1⟩, h1, h⟩ := Option.bind_eq_some_iff.mp hf
  obtain ⟨d, h3, h⟩ := Option.map_eq_some_iff.mp h
  cases h
  refine ⟨Z, m, env, x, _, e, s, er, h1, fun m1 vx e1 t1 rx => ?_⟩
  exact ⟨Z, m1, x, v, rfl, t1.si, rx, by rw [e1]; exact h3, fun m2 w e2 t2 rw => q m2 w (e2.trans e1) (t1.trans s t2) rw⟩
variable {x : Str} {p : Pos} {id T : String}
theorem ej_callB {f : FN} (hc : CallR X (.builtin id) (rN X.K f)) (hg : Gl X x) (hm : X.mg x = none) (hv : bootBuiltins x = some (.builtin id)) (ha : AJ X (a :: es) ga) (hn : x ≠ "__name__" := by decide) (hdb : (x == ("__debug__" : Str)) = false := by decide)
    (hs : starEach (a :: es) X.env = (false, eval a X.env) :: starEach es X.env := by rfl) (hpl : (backTo pos (starEach es X.env)).any (·.1) = false := by rfl) : EJ X (.Call (.Name x p) (a :: es) [] pos) (eCB f ga) :=
  pe_wk (pe_callB hc hg hm hv ha hn hdb hs hpl) fun _ _ _ h => te_cb h
theorem ej_callT {f : FN} (hc : CallR X (.type T) (rN X.K f)) (hg : Gl X x) (hm : X.mg x = none) (hv : bootBuiltins x = some (.type T)) (ha : AJ X (a :: es) ga) (hn : x ≠ "__name__" := by decide) (hdb : (x == ("__debug__" : Str)) = false := by decide)
    (hs : starEach (a :: es) X.env = (false, eval a X.env) :: starEach es X.env := by rfl) (hpl : (backTo pos (starEach es X.env)).any (·.1) = false := by rfl) : EJ X (.Call (.Name x p) (a :: es) [] pos) (eCB f ga) :=
  pe_wk (pe_callTy hc hg hm hv ha hn hdb hs hpl) fun _ _ _ h => te_cb h
/-- .. that make a new list -/
abbrev FNL := Sto → List D → Option (List D)
def lCB (f : FNL) (g : AX) : LX := fun e S => (g e S).bind fun p => (f p.2 p.1).map fun d => (d, p.2)
def rNL (K : PySem.W.Frag) (f : FNL) : List V → Hp → VK → Prop := fun xs H Q => ∃ (Z : List Addr) (m : M) (as : List D) (d : List D), m.H = H ∧ Sim ⟨K, Z⟩ m ∧ RepL ⟨K, Z⟩ m as xs ∧ f m.S as = some d ∧
  ∀ m' p v, m'.S = m.S → Tr ⟨K, Z⟩ m m' → RepL ⟨K, Z⟩ m' d v → m'.H p = none → Q (.ref p) (upd m'.H p (.lst v))
theorem tl_cb {f : FNL} {g : AX} {σ : L2.St} {H : Hp} {Q : VK} (h : tL K (lCB f g) σ H Q) : tCB (rNL K f) (tA K g) σ H Q := by
  obtain ⟨Z, m, env, v, S', e, s, er, hf, q⟩ := h
  unfold lCB at hf
  obtain ⟨⟨x, S1⟩, h1, h⟩ := Option.bind_eq_some_iff.mp hf
  obtain ⟨d, h3, h⟩ := Option.map_eq_some_iff.mp h
  cases h
  refine ⟨Z, m, env, x, _, e, s, er, h1, fun m1 vx e1 t1 rx => ?_⟩
  exact ⟨Z, m1, x, v, rfl, t1.si, rx, by rw [e1]; exact h3, fun m2 p w e2 t2 rw hp => q m2 p w (e2.trans e1) (t1.trans s t2) rw hp⟩
theorem lj_callB {f : FNL} (hc : CallR X (.builtin id) (rNL X.K f)) (hg : Gl X x) (hm : X.mg x = none) (hv : bootBuiltins x = some (.builtin id)) (ha : AJ X (a :: es) ga) (hn : x ≠ "__name__" := by decide) (hdb : (x == ("__debug__" : Str)) = false := by decide)
    (hs : starEach (a :: es) X.env = (false, eval a X.env) :: starEach es X.env := by rfl) (hpl : (backTo pos (starEach es X.env)).any (·.1) = false := by rfl) : LJ X (.Call (.Name x p) (a :: es) [] pos) (lCB f ga) :=
  pe_wk (pe_callB hc hg hm hv ha hn hdb hs hpl) fun _ _ _ h => tl_cb h
theorem lj_callT {f : FNL} (hc : CallR X (.type T) (rNL X.K f)) (hg : Gl X x) (hm : X.mg x = none) (hv : bootBuiltins x = some (.type T)) (ha : AJ X (a :: es) ga) (hn : x ≠ "__name__" := by decide) (hdb : (x == ("__debug__" : Str)) = false := by decide)
    (hs : starEach (a :: es) X.env = (false, eval a X.env) :: starEach es X.env := by rfl) (hpl : (backTo pos (starEach es X.env)).any (·.1) = false := by rfl) : LJ X (.Call (.Name x p) (a :: es) [] pos) (lCB f ga) :=
  pe_wk (pe_callTy hc hg hm hv ha hn hdb hs hpl) fun _ _ _ h => tl_cb h
/-- a binary operator that makes a new list -/
abbrev F2L := Sto → D → D → Option (List D)
def l2 (f : F2L) (a b : EX) : LX := fun e S => (a e S).bind fun p => (b e p.2).bind fun q => (f q.2 p.1 q.1).map fun d => (d, q.2)
def r2L (K : PySem.W.Frag) (f : F2L) : R2 := fun x y H Q => ∃ (Z : List Addr) (m : M) (a b : D) (d : List D), m.H = H ∧ Sim ⟨K, Z⟩ m ∧ Rep ⟨K, Z⟩ m a x ∧ Rep ⟨K, Z⟩ m b y ∧ f m.S a b = some d ∧
  ∀ m' p v, m'.S = m.S → Tr ⟨K, Z⟩ m m' → RepL ⟨K, Z⟩ m' d v → m'.H p = none → Q (.ref p) (upd m'.H p (.lst v))
theorem lj_op {op : Operator} {f : F2L} (ho : OpR X (binaryOp op) (r2L X.K f)) (ha : EJ X a fa) (hb : EJ X b fb) : LJ X (.BinOp a op b pos) (l2 f fa fb) := pe_wk (pe_op ho ha hb) fun σ H Q ⟨Z, m, env, v, S', e, s, er, hf, q⟩ => by
  unfold l2 at hf
  obtain ⟨⟨x, S1⟩, h1, h⟩ := Option.bind_eq_some_iff.mp hf
  obtain ⟨⟨y, S2⟩, h2, h⟩ := Option.bind_eq_some_iff.mp h
  obtain ⟨d, h3, h⟩ := Option.map_eq_some_iff.mp h
  cases h
  refine ⟨Z, m, env, x, S1, e, s, er, h1, fun m1 vx e1 t1 rx => ?_⟩
  refine ⟨Z, m1, env, y, _, rfl, t1.si, er.tr s t1, by rw [e1]; exact h2, fun m2 vy e2 t2 ry => ?_⟩
  refine ⟨Z, m2, x, y, v, rfl, t2.si, t2.rep t1.si rx, ry, by rw [e2]; exact h3, fun m3 p w e3 t3 rw hp => ?_⟩
  exact q m3 p w (e3.trans e2) ((t1.trans s t2).trans s t3) rw hp
/-! subscripts and slices -/
theorem ej_ix {f : F2} (hr : IxR X (r2 X.K f)) (ha : EJ X a fa) (hb : EJ X b fb) (hs : PlainIx b) : EJ X (.Subscript a b pos) (e2 f fa fb) := pe_wk (pe_ix hr ha hb hs) fun _ _ _ h => te_op h
abbrev OX := En → Sto → Option (Option Int × Sto)
def tO (K : PySem.W.Frag) (f : OX) : TO := fun σ H Q => ∃ (Z : List Addr) (m : M) (env : En) (v : Option Int) (S' : Sto), m.H = H ∧ Sim ⟨K, Z⟩ m ∧ ER ⟨K, Z⟩ m env σ ∧ f env m.S = some (v, S') ∧
  ∀ m', m'.S = S' → Tr ⟨K, Z⟩ m m' → Q v m'.H
abbrev OJ (X : Cx) (e : Option Expr) (f : OX) : Prop := PO X e (tO X.K f)
theorem po_wk {e : Option Expr} {t t' : TO} (h : PO X e t) (k : ∀ σ H Q, t' σ H Q → t σ H Q) : PO X e t' := ⟨fun pins s σ H Q I w => h.run pins s σ H Q I (k σ H Q w)⟩
def oNo : OX := fun _ S => some (none, S)
def oSome (f : EX) : OX := fun e S => (f e S).bind fun p => match p.1 with
  | .int i => some (some i, p.2)
  | _ => none
theorem oj_no : OJ X none oNo := po_wk po_none fun σ H Q ⟨Z, m, env, v, S', e, s, er, hf, q⟩ => by
  subst e
  cases hf
  exact q m rfl (.refl s)
theorem oj_some (h : EJ X a fa) : OJ X (some a) (oSome fa) := po_wk (po_some h) fun σ H Q ⟨Z, m, env, v, S', e, s, er, hf, q⟩ => by
  unfold oSome at hf
  obtain ⟨⟨x, S1⟩, h1, h⟩ := Option.bind_eq_some_iff.mp hf
  refine ⟨Z, m, env, x, S1, e, s, er, h1, fun m1 vx e1 t1 rx => ?_⟩
  cases x with
  | int i => cases h; exact ⟨i, rx, q m1 e1 t1⟩
  | _ => cases h
abbrev FS := Sto → D → Option Int → Option Int → Option D
abbrev FSL := Sto → D → Option Int → Option Int → Option (List D)
def eSl (f : FS) (a : EX) (lo hi : OX) : EX := fun e S => (a e S).bind fun p => (lo e p.2).bind fun q => (hi e q.2).bind fun r => (f r.2 p.1 q.1 r.1).map fun d => (d, r.2)
def lSl (f : FSL) (a : EX) (lo hi : OX) : LX := fun e S => (a e S).bind fun p => (lo e p.2).bind fun q => (hi e q.2).bind fun r => (f r.2 p.1 q.1 r.1).map fun d => (d, r.2)
def rS (K : PySem.W.Frag) (f : FS) : V → Option Int → Option Int → Hp → VK → Prop := fun x lo hi H Q => ∃ (Z : List Addr) (m : M) (a d : D), m.H = H ∧ Sim ⟨K, Z⟩ m ∧ Rep ⟨K, Z⟩ m a x ∧ f m.S a lo hi = some d ∧
  ∀ m' v, m'.S = m.S → Tr ⟨K, Z⟩ m m' → Rep ⟨K, Z⟩ m' d v → Q v m'.H
def rSL (K : PySem.W.Frag) (f : FSL) : V → Option Int → Option Int → Hp → VK → Prop := fun x lo hi H Q => ∃ (Z : List Addr) (m : M) (a : D) (d : List D), m.H = H ∧ Sim ⟨K, Z⟩ m ∧ Rep ⟨K, Z⟩ m a x ∧ f m.S a lo hi = some d ∧
  ∀ m' p v, m'.S = m.S → Tr ⟨K, Z⟩ m m' → RepL ⟨K, Z⟩ m' d v → m'.H p = none → Q (.ref p) (upd m'.H p (.lst v))
variable {lo hi : Option Expr} {fl fh : OX} {p2 : Pos}
theorem ej_slice {f : FS} (hr : SlR X (rS X.K f)) (he : EJ X a fa) (hl : OJ X lo fl) (hu : OJ X hi fh) : EJ X (.Subscript a (.Slice lo hi none p2) pos) (eSl f fa fl fh) := pe_wk (pe_slice hr he hl hu) fun σ H Q ⟨Z, m, env, v, S', e, s, er, hf, q⟩ => by
  unfold eSl at hf
  obtain ⟨⟨x, S1⟩, h1, h⟩ := Option.bind_eq_some_iff.mp hf
  obtain ⟨⟨y, S2⟩, h2, h⟩ := Option.bind_eq_some_iff.mp h
  obtain ⟨⟨z, S3⟩, h3, h⟩ := Option.bind_eq_some_iff.mp h
  obtain ⟨d, h4, h⟩ := Option.map_eq_some_iff.mp h
  cases h
  refine ⟨Z, m, env, x, S1, e, s, er, h1, fun m1 vx e1 t1 rx => ?_⟩
  refine ⟨Z, m1, env, y, S2, rfl, t1.si, er.tr s t1, by rw [e1]; exact h2, fun m2 e2 t2 => ?_⟩
  refine ⟨Z, m2, env, z, _, rfl, t2.si, er.tr s (t1.trans s t2), by rw [e2]; exact h3, fun m3 e3 t3 => ?_⟩
  refine ⟨Z, m3, x, v, rfl, t3.si, t3.rep t2.si (t2.rep t1.si rx), by rw [e3]; exact h4, fun m4 w e4 t4 rw => ?_⟩
  exact q m4 w (e4.trans e3) (((t1.trans s t2).trans s t3).trans s t4) rw
theorem lj_slice {f : FSL} (hr : SlR X (rSL X.K f)) (he : EJ X a fa) (hl : OJ X lo fl) (hu : OJ X hi fh) : LJ X (.Subscript a (.Slice lo hi none p2) pos) (lSl f fa fl fh) := pe_wk (pe_slice hr he hl hu) fun σ H Q ⟨Z, m, env, v, S', e, s, er, hf, q⟩ => by
  unfold lSl at hf
  obtain ⟨⟨x, S1⟩, h1, h⟩ := Option.bind_eq_some_iff.mp hf
  obtain ⟨⟨y, S2⟩, h2, h⟩ := Option.bind_eq_some_iff.mp h
  obtain ⟨⟨z, S3⟩, h3, h⟩ := Option.bind_eq_some_iff.mp h
  obtain ⟨d, h4, h⟩ := Option.map_eq_some_iff.mp h
  cases h
  refine ⟨Z, m, env, x, S1, e, s, er, h1, fun m1 vx e1 t1 rx => ?_⟩
  refine ⟨Z, m1, env, y, S2, rfl, t1.si, er.tr s t1, by rw [e1]; exact h2, fun m2 e2 t2 => ?_⟩
  refine ⟨Z, m2, env, z, _, rfl, t2.si, er.tr s (t1.trans s t2), by rw [e2]; exact h3, fun m3 e3 t3 => ?_⟩
  refine ⟨Z, m3, x, v, rfl, t3.si, t3.rep t2.si (t2.rep t1.si rx), by rw [e3]; exact h4, fun m4 p w e4 t4 rw hp => ?_⟩
  exact q m4 p w (e4.trans e3) (((t1.trans s t2).trans s t3).trans s t4) rw hp
end
end Pv
set_option Elab.async false
set_option linter.all false
set_option maxRecDepth 100000
namespace Pv
open PySem PySem.Spec PyProof.Rows L2
section
variable {X : Cx} {K : PySem.W.Frag} {a b : Expr} {pos : Pos} {fa fb : EX} {c : C} {m m' : M} {env : En} {σ σ' : L2.St}
/-! targets -/
def gN (i : Nat) : GX := fun d e S => some (e.set i (some d), S)
theorem gj_name {i : Nat} {x : Str} (hN : X.N.Nodup) (hi : X.N[i]? = some x) (hx : Loc X.env.scope x) (hf : X.fn x = true ∨ X.env.scope.names.lookup x = some .local := by first | exact .inl rfl | exact .inr rfl | assumption) : GJ X (.Name x pos) [i] (gN i) :=
  pg_wk (pg_name hN hi hx hf) fun v σ H Q ⟨Z, m, env, d, env', S', e, s, er, r, hg, q⟩ => by
    subst e
    cases hg
    refine q m _ rfl (.refl s) (er.set r i) ⟨by rw [List.length_set], fun j hj => ?_⟩
    rw [List.getElem?_set_ne (fun z => hj (by simp [z]))]
abbrev GXs := List D → En → Sto → Option (En × Sto)
def tGs (K : PySem.W.Frag) (vs : List Nat) (g : GXs) : TGs := fun xs σ H Q => ∃ (Z : List Addr) (m : M) (env : En) (ds : List D) (env' : En) (S' : Sto), m.H = H ∧ Sim ⟨K, Z⟩ m ∧ ER ⟨K, Z⟩ m env σ ∧ RepL ⟨K, Z⟩ m ds xs ∧ g ds env m.S = some (env', S') ∧
  ∀ m' σ', m'.S = S' → Tr ⟨K, Z⟩ m m' → ER ⟨K, Z⟩ m' env' σ' → (σ'.length = σ.length ∧ ∀ i, i ∉ vs → σ'[i]? = σ[i]?) → Q σ' m'.H
abbrev GsJ (X : Cx) (e : List Expr) (vs : List Nat) (f : GXs) : Prop := PGs X e (tGs X.K vs f)
theorem pgs_wk {e : List Expr} {t t' : TGs} (h : PGs X e t) (k : ∀ v σ H Q, t' v σ H Q → t v σ H Q) : PGs X e t' := ⟨fun pins s σ H v u Q I r w => h.run pins s σ H v u Q I r (k v σ H Q w)⟩
def gsNil : GXs := fun ds e S => match ds with
  | [] => some (e, S)
  | _ => none
def gsCons (g : GX) (gs : GXs) : GXs := fun ds e S => match ds with
  | d :: r => (g d e S).bind fun p => gs r p.1 p.2
  | [] => none
theorem gsj_nil : GsJ X [] [] gsNil := pgs_wk pgs_nil fun v σ H Q ⟨Z, m, env, ds, env', S', e, s, er, r, hg, q⟩ => by
  subst e
  cases ds with
  | nil => cases hg; exact ⟨r, q m σ rfl (.refl s) er ⟨rfl, fun _ _ => rfl⟩⟩
  | cons d ds => cases hg
theorem gsj_cons {es : List Expr} {vs ws : List Nat} {g : GX} {gs : GXs} (h : GJ X a vs g) (k : GsJ X es ws gs)
    (hs : (assignEach (a :: es) X.env).map (·.2) = assign a X.env :: (assignEach es X.env).map (·.2) := by rfl) : GsJ X (a :: es) (vs ++ ws) (gsCons g gs) :=
  pgs_wk (pgs_cons h k hs) fun v σ H Q ⟨Z, m, env, ds, env', S', e, s, er, r, hg, q⟩ => by
    cases ds with
    | nil => cases hg
    | cons d ds =>
      obtain ⟨⟨e1, S1⟩, h1, h2⟩ := Option.bind_eq_some_iff.mp (show (g d env m.S).bind (fun p => gs ds p.1 p.2) = some (env', S') from hg)
      obtain ⟨x, xr, rfl, rx, rr⟩ := r
      refine ⟨x, xr, rfl, Z, m, env, d, e1, S1, e, s, er, rx, h1, fun m1 σ1 q1 t1 er1 ag1 => ?_⟩
      refine ⟨Z, m1, e1, ds, env', S', rfl, t1.si, er1, t1.repL s rr, by rw [q1]; exact h2, fun m2 σ2 q2 t2 er2 ag2 => ?_⟩
      refine q m2 σ2 q2 (t1.trans s t2) er2 ⟨ag2.1.trans ag1.1, fun i hi => ?_⟩
      rw [ag2.2 i (fun z => hi (List.mem_append_right _ z)), ag1.2 i (fun z => hi (List.mem_append_left _ z))]
def gT (n : Nat) (gs : GXs) : GX := fun d e S => match d with
  | .tup ds => if ds.length = n then gs ds e S else none
  | _ => none
theorem gj_tup {es : List Expr} {k n : Nat} {vs : List Nat} {gs : GXs} (hc : X.calm = true) (h : GsJ X es vs gs) (hn : (assignEach es X.env).length = n := by rfl) (hst : (assignEach es X.env).findIdx? (·.1) = none := by rfl) : GJ X (.Tuple es k pos) vs (gT n gs) :=
  pg_wk (pg_tup hc h hn hst) fun v σ H Q ⟨Z, m, env, d, env', S', e, s, er, r, hg, q⟩ => by
    cases d with
    | tup ds =>
      obtain ⟨p, xs, rfl, h1, h2⟩ := r
      unfold gT at hg
      simp only at hg
      split at hg
      · rename_i hl
        subst e
        exact ⟨p, xs, rfl, h1, by rw [h2.len]; exact hl, Z, m, env, ds, env', S', rfl, s, er, h2, hg, q⟩
      · cases hg
    | _ => cases hg
/-- boxes read -/
def boxAt (S : Sto) (n : Nat) : Option (List D) := match S[n]? with
  | some (.lst ds) => some ds
  | none => none
theorem boxAt_inv {S : Sto} {n : Nat} {ds : List D} (h : boxAt S n = some ds) : S[n]? = some (.lst ds) := by
  unfold boxAt at h
  split at h
  · rename_i ds' e
    cases h
    exact e
  · cases h
theorem Sim.at (s : Sim c m) {n : Nat} {ds : List D} (h : boxAt m.S n = some ds) : n < m.S.length ∧ ∃ xs, m.H (m.r n) = some (.lst xs) ∧ RepL c m ds xs := by
  have e := boxAt_inv h
  refine ⟨?_, s.obj n _ e⟩
  rcases Nat.lt_or_ge n m.S.length with z | z
  · exact z
  · rw [List.getElem?_eq_none z] at e; cases e
/-- o[i] = .. of a box -/
def gS (fo fi : EX) : GX := fun d e S => (fo e S).bind fun p => (fi e p.2).bind fun q => match p.1, q.1 with
  | .ref n, .int k => (boxAt q.2 n).bind fun ds => (ixN ds.length k).map fun j => (e, q.2.set n (.lst (ds.set j d)))
  | _, _ => none
theorem gj_sub (ho : EJ X a fa) (hi : EJ X b fb)
    (ha : ∀ v, assign (.Subscript a b pos) X.env v = (do
      let ov ← holding [v] (eval a X.env)
      let iv ← holding [v, ov] (eval b X.env)
      standAt pos
      holding [v, ov, iv] (setItem ov iv v)
      release [v, ov, iv] []) := by intro _; rfl) : GJ X (.Subscript a b pos) [] (gS fa fb) :=
  pg_wk (pg_sub ho hi set_list ha) fun v σ H Q ⟨Z, m, env, d, env', S', e, s, er, r, hg, q⟩ => by
    unfold gS at hg
    obtain ⟨⟨x, S1⟩, h1, h⟩ := Option.bind_eq_some_iff.mp hg
    obtain ⟨⟨y, S2⟩, h2, h⟩ := Option.bind_eq_some_iff.mp h
    refine ⟨Z, m, env, x, S1, e, s, er, h1, fun m1 vx e1 t1 rx => ?_⟩
    refine ⟨Z, m1, env, y, S2, rfl, t1.si, er.tr s t1, by rw [e1]; exact h2, fun m2 vy e2 t2 ry => ?_⟩
    cases x with
    | ref n =>
      cases y with
      | int k =>
        obtain ⟨ds, h3, h⟩ := Option.bind_eq_some_iff.mp h
        obtain ⟨j, h4, h⟩ := Option.map_eq_some_iff.mp h
        simp only [Prod.mk.injEq] at h
        obtain ⟨rfl, hS⟩ := h
        have t12 := t1.trans s t2
        obtain ⟨hl, xs, hH, rl⟩ := t2.si.at (by rw [e2]; exact h3)
        have rx2 := t2.rep t1.si rx
        refine ⟨m2.r n, xs, k, j, rx2.2, ry, hH, by rw [rl.len]; exact h4, ?_⟩
        have rl' : RepL ⟨X.K, Z⟩ m2 (ds.set j d) (xs.set j v) := RepL.set (t12.rep s r) j rl
        have t3 := Tr.put t2.si hl rl'
        exact q (m2.put n (ds.set j d) (xs.set j v)) σ (by show m2.S.set n _ = S'; rw [← hS, e2]) (t12.trans s t3) (er.tr s (t12.trans s t3)) ⟨rfl, fun _ _ => rfl⟩
      | _ => cases h
    | _ => cases h
/-! statements -/
def sSeq (f g : SX) : SX := fun e S => (f e S).bind fun o => match o with
  | .nx e' S' => g e' S'
  | .rt d S' => some (.rt d S')
  | .bk e' S' => some (.bk e' S')
  | .ct e' S' => some (.ct e' S')
def sNil : SX := fun e S => some (.nx e S)
theorem Post.tr {D : Ends} {o : Out} (s : Sim c m) (t : Tr c m m') (h : Post c m D o) : Post c m' D o := by
  cases o with
  | nx e S => exact fun m2 σ2 q2 t2 er => h m2 σ2 q2 (t.trans s t2) er
  | bk e S => exact fun m2 σ2 q2 t2 er => h m2 σ2 q2 (t.trans s t2) er
  | ct e S => exact fun m2 σ2 q2 t2 er => h m2 σ2 q2 (t.trans s t2) er
  | rt d S => exact fun m2 σ2 q2 t2 er => h m2 σ2 q2 (t.trans s t2) er
variable {st : Stmt} {rest : List Stmt} {f g : SX}
theorem bj_nil : BJ X [] sNil := pss_wk pss_nil fun D σ H ⟨Z, m, env, o, e, s, er, hf, q⟩ => by
  subst e
  cases hf
  exact q m σ rfl (.refl s) er
theorem bj_cons (h : SJ X st f) (k : BJ X rest g) : BJ X (st :: rest) (sSeq f g) := pss_wk (pss_cons h k) fun D σ H ⟨Z, m, env, o, e, s, er, hf, q⟩ => by
  unfold sSeq at hf
  obtain ⟨o1, h1, h2⟩ := Option.bind_eq_some_iff.mp hf
  refine ⟨Z, m, env, o1, e, s, er, h1, ?_⟩
  cases o1 with
  | nx e' S' => exact fun m1 σ1 q1 t1 er1 => ⟨Z, m1, e', o, rfl, t1.si, er1, by rw [q1]; exact h2, q.tr s t1⟩
  | rt d S' => cases h2; exact q
  | bk d S' => cases h2; exact q
  | ct d S' => cases h2; exact q
theorem bj_one (h : SJ X st f) : BJ X [st] f := pss_one h
def sPass : SX := sNil
theorem sj_pass : SJ X (.Pass pos) sNil := ps_wk ps_pass fun D σ H ⟨Z, m, env, o, e, s, er, hf, q⟩ => by
  subst e
  cases hf
  exact q m σ rfl (.refl s) er
def sBreak : SX := fun e S => some (.bk e S)
def sCont : SX := fun e S => some (.ct e S)
theorem sj_break : SJ X (.Break pos) sBreak := ps_wk ps_break fun D σ H ⟨Z, m, env, o, e, s, er, hf, q⟩ => by
  subst e
  cases hf
  exact q m σ rfl (.refl s) er
theorem sj_cont : SJ X (.Continue pos) sCont := ps_wk ps_continue fun D σ H ⟨Z, m, env, o, e, s, er, hf, q⟩ => by
  subst e
  cases hf
  exact q m σ rfl (.refl s) er
def sExpr (f : EX) : SX := fun e S => (f e S).map fun p => .nx e p.2
theorem sj_expr (h : EJ X a fa) (hs : swapsWith a none pos.line X.env = pure false := by rfl) : SJ X (.Expr a pos) (sExpr fa) := ps_wk (ps_expr h hs) fun D σ H ⟨Z, m, env, o, e, s, er, hf, q⟩ => by
  obtain ⟨⟨x, S1⟩, h1, h2⟩ := Option.map_eq_some_iff.mp hf
  cases h2
  exact ⟨Z, m, env, x, S1, e, s, er, h1, fun m1 vx e1 t1 rx => q m1 σ e1 t1 (er.tr s t1)⟩
def sRet (f : EX) : SX := fun e S => (f e S).map fun p => .rt p.1 p.2
theorem sj_ret (h : EJ X a fa) : SJ X (.Return (some a) pos) (sRet fa) := ps_wk (ps_ret h) fun D σ H ⟨Z, m, env, o, e, s, er, hf, q⟩ => by
  obtain ⟨⟨x, S1⟩, h1, h2⟩ := Option.map_eq_some_iff.mp hf
  cases h2
  exact ⟨Z, m, env, x, S1, e, s, er, h1, q⟩
def sRetN : SX := fun e S => some (.rt .non S)
theorem sj_retN : SJ X (.Return none pos) sRetN := ps_wk ps_retN fun D σ H ⟨Z, m, env, o, e, s, er, hf, q⟩ => by
  subst e
  cases hf
  exact q m .non rfl (.refl s) rfl
def sIf (t : TX) (f g : SX) : SX := fun e S => (t e S).bind fun p => if p.1 = true then f e p.2 else g e p.2
theorem sj_if {t : TX} {l r : List Stmt} (hc : TJ X a t) (h : BJ X l f) (k : BJ X r g) : SJ X (.If a l r pos) (sIf t f g) := ps_wk (ps_if hc h k) fun D σ H ⟨Z, m, env, o, e, s, er, hf, q⟩ => by
  unfold sIf at hf
  obtain ⟨⟨x, S1⟩, h1, h⟩ := Option.bind_eq_some_iff.mp hf
  refine ⟨Z, m, env, x, S1, e, s, er, h1, fun m1 e1 t1 => ?_⟩
  cases x with
  | true => exact ⟨Z, m1, env, o, rfl, t1.si, er.tr s t1, by rw [e1]; exact h, q.tr s t1⟩
  | false => exact ⟨Z, m1, env, o, rfl, t1.si, er.tr s t1, by rw [e1]; exact h, q.tr s t1⟩
def sAsg (f : EX) (g : GX) : SX := fun e S => (f e S).bind fun p => (g p.1 e p.2).map fun q => .nx q.1 q.2
theorem ts_asg {f : EX} {g : GX} {vs : List Nat} {D : Ends} {σ : L2.St} {H : Hp} (h : tS K (sAsg f g) D σ H) : tAsg (tE K f) (tG K vs g) D σ H := by
  obtain ⟨Z, m, env, o, e, s, er, hf, q⟩ := h
  unfold sAsg at hf
  obtain ⟨⟨x, S1⟩, h1, h⟩ := Option.bind_eq_some_iff.mp hf
  obtain ⟨⟨e2, S2⟩, h2, h3⟩ := Option.map_eq_some_iff.mp h
  cases h3
  refine ⟨Z, m, env, x, S1, e, s, er, h1, fun m1 vx e1 t1 rx => ?_⟩
  exact ⟨Z, m1, env, x, e2, S2, rfl, t1.si, er.tr s t1, rx, by rw [e1]; exact h2, fun m2 σ2 q2 t2 er2 _ => q m2 σ2 q2 (t1.trans s t2) er2⟩
theorem sj_asg {vs : List Nat} {g : GX} (he : EJ X b fb) (hg : GJ X a vs g) (hs : swapsWithSole [a] b pos.line X.env = pure false := by rfl) (hw : swappedStores [a] b X.env = pure none := by rfl)
    (h1 : (assignEach [a] X.env).map (·.2) = [assign a X.env] := by rfl) : SJ X (.Assign [a] b pos) (sAsg fb g) := ps_wk (ps_asg he hg hs hw h1) fun _ _ _ h => ts_asg h
theorem sj_set {i : Nat} {x : Str} {pos' : Pos} (hN : X.N.Nodup) (hi : X.N[i]? = some x) (hx : Loc X.env.scope x) (he : EJ X b fb) (hs : swapsWith b (some (.Name x pos')) pos.line X.env = pure false := by rfl) (hf : X.fn x = true ∨ X.env.scope.names.lookup x = some .local := by first | exact .inl rfl | exact .inr rfl | assumption) :
    SJ X (.Assign [.Name x pos'] b pos) (sAsg fb (gN i)) := ps_wk (ps_set hN hi hx he hs hf) fun D σ H ⟨Z, m, env, o, e, s, er, hf, q⟩ => by
  unfold sAsg at hf
  obtain ⟨⟨y, S1⟩, h1, h⟩ := Option.bind_eq_some_iff.mp hf
  cases h
  exact ⟨Z, m, env, y, S1, e, s, er, h1, fun m1 vx e1 t1 rx => q m1 _ e1 t1 ((er.tr s t1).set rx i)⟩
/-- a, b = x, y: two and three names -/
def sPar (i j : Nat) (g : AX) : SX := fun e S => (g e S).bind fun p => match p.1 with
  | [u, v] => some (.nx ((e.set i (some u)).set j (some v)) p.2)
  | _ => none
def sPar3 (i j l : Nat) (g : AX) : SX := fun e S => (g e S).bind fun p => match p.1 with
  | [u, v, w] => some (.nx (((e.set i (some u)).set j (some v)).set l (some w)) p.2)
  | _ => none
theorem sj_par {i j : Nat} {x y : Str} {ga : AX} {px py pt : Pos} {kt k2 pt2} (hc : X.calm = true) (hN : X.N.Nodup) (hi : X.N[i]? = some x) (hj : X.N[j]? = some y) (hij : i ≠ j)
    (hx : X.env.scope.names.lookup x = some .local) (hy : X.env.scope.names.lookup y = some .local) (ha : AJ X [a, b] ga)
    (hw : swappedStores [.Tuple [.Name x px, .Name y py] kt pt] (.Tuple [a, b] k2 pt2) X.env = pure (some [x, y]))
    (hs : swapsWithSole [.Tuple [.Name x px, .Name y py] kt pt] (.Tuple [a, b] k2 pt2) pos.line X.env = pure false := by rfl) :
    SJ X (.Assign [.Tuple [.Name x px, .Name y py] kt pt] (.Tuple [a, b] k2 pt2) pos) (sPar i j ga) := ps_wk (ps_par hc hN hi hj hij hx hy ha hw hs) fun D σ H ⟨Z, m, env, o, e, s, er, hf, q⟩ => by
  unfold sPar at hf
  obtain ⟨⟨y, S1⟩, h1, h⟩ := Option.bind_eq_some_iff.mp hf
  refine ⟨Z, m, env, y, S1, e, s, er, h1, fun m1 vx e1 t1 rx => ?_⟩
  match y, h, rx with
  | [u, v], h, rx =>
    obtain ⟨x1, r1, rfl, a1, a2⟩ := rx
    obtain ⟨x2, r2, rfl, b1, b2⟩ := a2
    cases b2
    cases h
    exact ⟨x1, x2, rfl, q m1 _ e1 t1 (((er.tr s t1).set a1 i).set b1 j)⟩
theorem sj_par3 {i j l : Nat} {x y z : Str} {c' : Expr} {ga : AX} {px py pz pt : Pos} {kt k2 pt2} (hc : X.calm = true) (hN : X.N.Nodup) (hi : X.N[i]? = some x) (hj : X.N[j]? = some y) (hl : X.N[l]? = some z) (hij : i ≠ j) (hil : i ≠ l) (hjl : j ≠ l)
    (hx : X.env.scope.names.lookup x = some .local) (hy : X.env.scope.names.lookup y = some .local) (hz : X.env.scope.names.lookup z = some .local) (ha : AJ X [a, b, c'] ga)
    (hw : swappedStores [.Tuple [.Name x px, .Name y py, .Name z pz] kt pt] (.Tuple [a, b, c'] k2 pt2) X.env = pure (some [x, y, z]))
    (hs : swapsWithSole [.Tuple [.Name x px, .Name y py, .Name z pz] kt pt] (.Tuple [a, b, c'] k2 pt2) pos.line X.env = pure false := by rfl) :
    SJ X (.Assign [.Tuple [.Name x px, .Name y py, .Name z pz] kt pt] (.Tuple [a, b, c'] k2 pt2) pos) (sPar3 i j l ga) := ps_wk (ps_par3 hc hN hi hj hl hij hil hjl hx hy hz ha hw hs) fun D σ H ⟨Z, m, env, o, e, s, er, hf, q⟩ => by
  unfold sPar3 at hf
  obtain ⟨⟨y, S1⟩, h1, h⟩ := Option.bind_eq_some_iff.mp hf
  refine ⟨Z, m, env, y, S1, e, s, er, h1, fun m1 vx e1 t1 rx => ?_⟩
  match y, h, rx with
  | [u, v, w], h, rx =>
    obtain ⟨x1, r1, rfl, a1, a2⟩ := rx
    obtain ⟨x2, r2, rfl, b1, b2⟩ := a2
    obtain ⟨x3, r3, rfl, c1, c2⟩ := b2
    cases c2
    cases h
    exact ⟨x1, x2, x3, rfl, q m1 _ e1 t1 ((((er.tr s t1).set a1 i).set b1 j).set c1 l)⟩
/-- name op= e -/
def sAug (i : Nat) (f : F2) (g : EX) : SX := fun e S => match e[i]? with
  | some (some x) => (g e S).bind fun p => (f p.2 x p.1).map fun d => .nx (e.set i (some d)) p.2
  | _ => none
theorem sj_aug {i : Nat} {x : Str} {op : Operator} {f : F2} {pos' : Pos} (hN : X.N.Nodup) (hi : X.N[i]? = some x) (hx : Loc X.env.scope x) (he : EJ X b fb) (ho : OpR X (inplaceOp op) (r2 X.K f)) (hf : X.fn x = true ∨ X.env.scope.names.lookup x = some .local := by first | exact .inl rfl | exact .inr rfl | assumption) :
    SJ X (.AugAssign (.Name x pos') op b pos) (sAug i f fb) := ps_wk (ps_aug hN hi hx he (show PIp X op (r2 X.K f) from ho) hf) fun D σ H ⟨Z, m, env, o, e, s, er, hf, q⟩ => by
  unfold sAug at hf
  split at hf
  · rename_i d hd
    obtain ⟨⟨y, S1⟩, h1, h⟩ := Option.bind_eq_some_iff.mp hf
    obtain ⟨z, h2, h3⟩ := Option.map_eq_some_iff.mp h
    cases h3
    obtain ⟨w, hw, rw⟩ := er.2 i d hd
    refine ⟨w, hw, Z, m, env, y, S1, e, s, er, h1, fun m1 vx e1 t1 rx => ?_⟩
    refine ⟨Z, m1, d, y, z, rfl, t1.si, t1.rep s rw, rx, by rw [e1]; exact h2, fun m2 v e2 t2 r2 => ?_⟩
    exact q m2 _ (e2.trans e1) (t1.trans s t2) ((er.tr s (t1.trans s t2)).set r2 i)
  · cases hf
/-! while -/
def whileN (t : TX) (b : SX) : Nat → SX
  | 0 => fun _ _ => none
  | n + 1 => fun e S => (t e S).bind fun p => if p.1 = true then (b e p.2).bind fun o => match o with
    | .nx e' S' => whileN t b n e' S'
    | .ct e' S' => whileN t b n e' S'
    | .bk e' S' => some (.nx e' S')
    | .rt d S' => some (.rt d S') else some (.nx e p.2)
def whileP (t : TX) (b : SX) (e : En) (S : Sto) (o : Out) : Prop := ∃ n, whileN t b n e S = some o
open Classical in
noncomputable def sWhile (t : TX) (b : SX) : SX := fun e S => if h : ∃ o, whileP t b e S o then some (choose h) else none
theorem whileN_le {t : TX} {b : SX} : ∀ {n k : Nat} {e : En} {S : Sto} {o : Out}, whileN t b n e S = some o → n ≤ k → whileN t b k e S = some o
  | 0, _, _, _, _, h, _ => nomatch h
  | n + 1, 0, _, _, _, _, hk => absurd hk (by omega)
  | n + 1, k + 1, e, S, o, h, hk => by
    obtain ⟨⟨c, S1⟩, h1, h2⟩ := Option.bind_eq_some_iff.mp (show ((t e S).bind _) = some o from h)
    show ((t e S).bind _) = some o
    rw [h1]
    show (if c = true then _ else _) = _
    have h2 : (if c = true then _ else _) = some o := h2
    cases c with
    | false => exact h2
    | true =>
      rw [if_pos rfl] at h2 ⊢
      obtain ⟨o1, h3, h4⟩ := Option.bind_eq_some_iff.mp h2
      rw [h3]
      cases o1 with
      | nx e' S' => exact whileN_le (n := n) (k := k) h4 (by omega)
      | ct e' S' => exact whileN_le (n := n) (k := k) h4 (by omega)
      | bk e' S' => exact h4
      | rt d S' => exact h4
theorem sWhile_of {t : TX} {b : SX} {e : En} {S : Sto} {o : Out} {n : Nat} (h : whileN t b n e S = some o) : sWhile t b e S = some o := by
  have hx : ∃ o, whileP t b e S o := ⟨o, n, h⟩
  unfold sWhile
  rw [dif_pos hx]
  obtain ⟨k, hk⟩ := Classical.choose_spec hx
  have h1 := whileN_le h (Nat.le_max_left n k)
  have h2 := whileN_le hk (Nat.le_max_right n k)
  rw [h1] at h2
  exact h2.symm
theorem sWhile_inv {t : TX} {b : SX} {e : En} {S : Sto} {o : Out} (h : sWhile t b e S = some o) : ∃ n, whileN t b n e S = some o := by
  unfold sWhile at h
  split at h
  · rename_i hx
    obtain ⟨k, hk⟩ := Classical.choose_spec hx
    cases h
    exact ⟨k, hk⟩
  · cases h
theorem sj_while {t : TX} {body : List Stmt} (hp : PassesOwn (model X.prog X.w) X.A X.env X.xe) (hc : TJ X a t) (hb : BJ X body f) : SJ X (.While a body [] pos) (sWhile t f) := ps_wk (ps_while hp hc hb) fun D σ H ⟨Z, m, env, o, e, s, er, hf, q⟩ => by
  obtain ⟨n, hn⟩ := sWhile_inv hf
  subst e
  refine ⟨fun k σ' H' => ∃ m' env', m'.H = H' ∧ Tr ⟨X.K, Z⟩ m m' ∧ ER ⟨X.K, Z⟩ m' env' σ' ∧ whileN t f k env' m'.S = some o, ⟨n, m, env, rfl, .refl s, er, hn⟩, ?_⟩
  rintro k σ' H' ⟨m', env', rfl, t', er', hk⟩
  cases k with
  | zero => cases hk
  | succ k =>
    obtain ⟨⟨c, S1⟩, h1, h2⟩ := Option.bind_eq_some_iff.mp (show ((t env' m'.S).bind _) = some o from hk)
    refine ⟨Z, m', env', c, S1, rfl, t'.si, er', h1, fun m1 q1 t1 => ?_⟩
    have h2 : (if c = true then _ else _) = some o := h2
    have t01 := t'.trans s t1
    cases c with
    | false =>
      cases h2
      exact q m1 σ' q1 t01 (er'.tr t'.si t1)
    | true =>
      rw [if_pos rfl] at h2
      obtain ⟨o1, h3, h4⟩ := Option.bind_eq_some_iff.mp h2
      refine ⟨fun σ2 H2 => ∃ m2 env2, m2.H = H2 ∧ Tr ⟨X.K, Z⟩ m m2 ∧ ER ⟨X.K, Z⟩ m2 env2 σ2 ∧ whileN t f k env2 m2.S = some o, fun σ2 H2 z => ⟨k, by omega, z⟩, ?_⟩
      refine ⟨Z, m1, env', o1, rfl, t1.si, er'.tr t'.si t1, by rw [q1]; exact h3, ?_⟩
      cases o1 with
      | nx e2 S2 => exact fun m2 σ2 q2 t2 er2 => ⟨m2, e2, rfl, t01.trans s t2, er2, by rw [q2]; exact h4⟩
      | ct e2 S2 => exact fun m2 σ2 q2 t2 er2 => ⟨m2, e2, rfl, t01.trans s t2, er2, by rw [q2]; exact h4⟩
      | bk e2 S2 => cases h4; exact fun m2 σ2 q2 t2 er2 => q m2 σ2 q2 (t01.trans s t2) er2
      | rt d S2 => cases h4; exact fun m2 x q2 t2 r2 => q m2 x q2 (t01.trans s t2) r2
/-! for -/
open Classical in
noncomputable def forL (g : GX) (b : SX) (gs : List Nat) (S0 : Sto) : List D → SX
  | [] => fun e S => some (.nx e S)
  | d :: ds => fun e S => (g d e S).bind fun p => (b p.1 p.2).bind fun o => match o with
    | .nx e' S' => if (∀ n, n ∈ gs → S'[n]? = S0[n]?) then forL g b gs S0 ds e' S' else none
    | .ct e' S' => if (∀ n, n ∈ gs → S'[n]? = S0[n]?) then forL g b gs S0 ds e' S' else none
    | .bk e' S' => some (.nx e' S')
    | .rt d S' => some (.rt d S')
noncomputable def sFor (it : IX) (g : GX) (b : SX) : SX := fun e S => (it e S).bind fun p => forL g b p.2.1 p.2.2 p.1 e p.2.2
theorem drop_cons {α : Type} {l : List α} {i : Nat} {d : α} {r : List α} (h : l.drop i = d :: r) : l[i]? = some d ∧ l.drop (i + 1) = r := by
  constructor
  · have := congrArg (·[0]?) h
    simpa using this
  · rw [← List.drop_drop, h]; rfl
theorem sj_for {tg iter : Expr} {it : IX} {vs : List Nat} {g : GX} {body : List Stmt} (hp : PassesOwn (model X.prog X.w) X.A X.env X.xe) (hc : X.calm = true) (hi : IJ X tg iter it) (hg : GJ X tg vs g) (hb : BJ X body f)
    (hs : ∀ x, foldedSetIterable iter X.env x = pure x := by intro _; rfl) : SJ X (.For tg iter body [] pos) (sFor it g f) := ps_wk (ps_for hp hc hi hg hb hs) fun D σ H ⟨Z, m, env, o, e, s, er, hf, q⟩ => by
  unfold sFor at hf
  obtain ⟨⟨ds, gs, S0⟩, h1, h2⟩ := Option.bind_eq_some_iff.mp hf
  refine ⟨Z, m, env, ds, gs, S0, e, s, er, h1, fun m0 J q0 t0 ok => ?_⟩
  subst q0
  refine ⟨fun i k σ' H' => ∃ m' env', m'.H = H' ∧ Tr ⟨X.K, Z⟩ m0 m' ∧ ER ⟨X.K, Z⟩ m' env' σ' ∧ (∀ n, n ∈ gs → m'.S[n]? = m0.S[n]?) ∧ k = ds.length - i ∧ forL g f gs m0.S (ds.drop i) env' m'.S = some o,
    ⟨ds.length, m0, env, rfl, .refl t0.si, er.tr s t0, fun _ _ => rfl, rfl, h2⟩, ?_⟩
  rintro i k σ' H' ⟨m', env', rfl, t', er', gd, rfl, hk⟩
  cases hd : ds.drop i with
  | nil =>
    rw [hd] at hk
    cases hk
    have hl : ds.length ≤ i := List.drop_eq_nil_iff.mp hd
    exact .inl ⟨(ok.go Z m' (fun _ h => h) (fun _ h => .inl h) t'.ex t'.si gd i).1 hl, q m' σ' rfl (t0.trans s t') er'⟩
  | cons d r =>
    rw [hd] at hk
    obtain ⟨hd1, hd2⟩ := drop_cons hd
    have hil : i < ds.length := by
      rcases Nat.lt_or_ge i ds.length with z | z
      · exact z
      · rw [List.getElem?_eq_none z] at hd1; cases hd1
    obtain ⟨go, yl⟩ := (ok.go Z m' (fun _ h => h) (fun _ h => .inl h) t'.ex t'.si gd i).2 d hd1
    refine .inr ⟨go, fun σ2 H2 => ∃ m2 env2, m2.H = H2 ∧ Tr ⟨X.K, Z⟩ m0 m2 ∧ ER ⟨X.K, Z⟩ m2 env2 σ2 ∧ (∀ n, n ∈ gs → m2.S[n]? = m0.S[n]?) ∧ forL g f gs m0.S r env2 m2.S = some o, fun σ2 H2 ⟨m2, env2, a1, a2, a3, a4, a5⟩ => ⟨ds.length - (i + 1), by omega, m2, env2, a1, a2, a3, a4, rfl, by rw [hd2]; exact a5⟩, ?_⟩
    intro x H3 hy
    obtain ⟨m3, rfl, e3, t3, r3⟩ := yl x H3 hy
    obtain ⟨⟨e4, S4⟩, h4, h5⟩ := Option.bind_eq_some_iff.mp (show ((g d env' m'.S).bind _) = some o from hk)
    obtain ⟨o1, h6, h7⟩ := Option.bind_eq_some_iff.mp h5
    have t03 := t'.trans t0.si t3
    refine ⟨Z, m3, env', d, e4, S4, rfl, t3.si, er'.tr t'.si t3, r3, by rw [e3]; exact h4, fun m4 σ4 q4 t4 er4 _ => ?_⟩
    refine ⟨Z, m4, e4, o1, rfl, t4.si, er4, by rw [q4]; exact h6, ?_⟩
    have t04 := t03.trans t0.si t4
    cases o1 with
    | nx e5 S5 =>
      simp only at h7
      split at h7
      · rename_i hgs
        exact fun m5 σ5 q5 t5 er5 => ⟨m5, e5, rfl, t04.trans t0.si t5, er5, fun n hn => by rw [q5]; exact hgs n hn, by rw [q5]; exact h7⟩
      · cases h7
    | ct e5 S5 =>
      simp only at h7
      split at h7
      · rename_i hgs
        exact fun m5 σ5 q5 t5 er5 => ⟨m5, e5, rfl, t04.trans t0.si t5, er5, fun n hn => by rw [q5]; exact hgs n hn, by rw [q5]; exact h7⟩
      · cases h7
    | bk e5 S5 => cases h7; exact fun m5 σ5 q5 t5 er5 => q m5 σ5 q5 (t0.trans s (t04.trans t0.si t5)) er5
    | rt d5 S5 => cases h7; exact fun m5 σ5 q5 t5 er5 => q m5 σ5 q5 (t0.trans s (t04.trans t0.si t5)) er5
end
end Pv
set_option Elab.async false
set_option linter.all false
set_option maxRecDepth 100000
namespace Pv
open PySem PySem.Spec PyProof.Rows L2
section
variable {X : Cx} {K : PySem.W.Frag} {a b : Expr} {pos : Pos} {fa fb : EX} {c : C} {m m' : M} {env : En} {σ σ' : L2.St}
/-! comprehensions -/
def wipeE (e : En) : List Nat → En
  | [] => e
  | v :: vs => (wipeE e vs).set v none
theorem ER.setN (h : ER c m env σ) (i : Nat) : ER c m (env.set i none) (σ.set i none) := by
  refine ⟨by rw [List.length_set, List.length_set]; exact h.1, fun j e q => ?_⟩
  by_cases hj : i = j
  · subst hj
    by_cases hl : i < env.length
    · rw [List.getElem?_set_self hl] at q; cases q
    · rw [List.getElem?_eq_none (by rw [List.length_set]; omega)] at q; cases q
  · rw [List.getElem?_set_ne hj] at q
    obtain ⟨y, h1, h2⟩ := h.2 j e q
    exact ⟨y, by rw [List.getElem?_set_ne hj]; exact h1, h2⟩
theorem ER.wipe (h : ER c m env σ) : ∀ vs : List Nat, ER c m (wipeE env vs) (wipe σ vs)
  | [] => h
  | v :: vs => (ER.wipe h vs).setN v
theorem wipe_in {σ : L2.St} : ∀ {vs : List Nat} {i : Nat}, i ∈ vs → (wipe σ vs)[i]? = if i < σ.length then some none else none
  | v :: vs, i, h => by
    show ((wipe σ vs).set v none)[i]? = _
    by_cases e : v = i
    · subst e
      by_cases hl : v < σ.length
      · rw [List.getElem?_set_self (by rw [wipe_length]; exact hl), if_pos hl]
      · rw [List.getElem?_eq_none (by rw [List.length_set, wipe_length]; omega), if_neg hl]
    · rw [List.getElem?_set_ne e]
      rcases List.mem_cons.mp h with q | q
      · exact absurd q.symm e
      · exact wipe_in q
theorem wipe_same {σ σ2 : L2.St} {vs ws : List Nat} (hl : σ2.length = (wipe σ vs).length) (ag : ∀ i, i ∉ ws → σ2[i]? = (wipe σ vs)[i]?) (sub : ∀ i, i ∈ ws → i ∈ vs) : wipe σ2 vs = wipe σ vs := by
  apply List.ext_getElem?
  intro i
  have hl2 : σ2.length = σ.length := by rw [hl, wipe_length]
  by_cases hi : i ∈ vs
  · rw [wipe_in hi, wipe_in hi, hl2]
  · rw [wipe_out hi, ag i (fun z => hi (sub i z))]
theorem ER.widen {Z Z' : List Addr} (h : ER ⟨K, Z⟩ m env σ) (hz : ∀ z, z ∈ Z' → z ∈ Z ∨ m.H z = none) : ER ⟨K, Z'⟩ m env σ := ⟨h.1, fun i d e => by
  obtain ⟨x, h1, h2⟩ := h.2 i d e
  exact ⟨x, h1, Rep.widen hz d x h2⟩⟩
theorem ER.ex (h : ER c m env σ) (b : BoxOk m) (x : Ex m m') : ER c m' env σ := ⟨h.1, fun i d e => by
  obtain ⟨y, h1, h2⟩ := h.2 i d e
  exact ⟨y, h1, Rep.mono b x d y h2⟩⟩
open Classical in
noncomputable def lcL (g : GX) (tt : TX) (te : EX) (gs : List Nat) (S0 : Sto) (e0 : En) : List D → Sto → Option (List D × Sto)
  | [], S => some ([], S)
  | d :: ds, S => (g d e0 S).bind fun p => (tt p.1 p.2).bind fun q => if q.1 = true then (te p.1 q.2).bind fun r => if (∀ n, n ∈ gs → r.2[n]? = S0[n]?) then (lcL g tt te gs S0 e0 ds r.2).map fun z => (r.1 :: z.1, z.2) else none
      else if (∀ n, n ∈ gs → q.2[n]? = S0[n]?) then lcL g tt te gs S0 e0 ds q.2 else none
noncomputable def lLc (it : IX) (g : GX) (tt : TX) (te : EX) (vs : List Nat) : LX := fun e S => (it e S).bind fun p => (lcL g tt te p.2.1 p.2.2 (wipeE e vs) p.1 p.2.2).bind fun q => if szOk q.1.length = true then some q else none
abbrev TsJ (X : Cx) (e : List Expr) (f : TX) : Prop := PTs X e (tT X.K f)
def tYes' : TX := fun _ S => some (true, S)
theorem pts_wk {e : List Expr} {t t' : TT} (h : PTs X e t) (k : ∀ σ H Q, t' σ H Q → t σ H Q) : PTs X e t' := ⟨fun pins s σ H Q I w => h.run pins s σ H Q I (k σ H Q w)⟩
theorem tsj_nil : TsJ X [] tYes' := pts_wk pts_nil fun σ H Q ⟨Z, m, env, v, S', e, s, er, hf, q⟩ => by
  subst e
  cases hf
  exact q m rfl (.refl s)
theorem tsj_one {t : TX} (h : TJ X a t) : TsJ X [a] t := pts_one h
theorem Ex.over {m0 m : M} {p : Addr} {ys : List V} (h0 : m0.H p = none) (x : Ex m0 m) : Ex m0 (m.over p ys) where
  le := x.le
  ag := x.ag
  pr := fun a o h n => by
    show upd m.H p _ a = _
    rw [upd_ne (ne_of_none h h0)]
    exact x.pr a o h n
  nw := x.nw
theorem tl_lc {it : IX} {g : GX} {tt : TX} {te : EX} {vs ws : List Nat} (hsub : ∀ i, i ∈ ws → i ∈ vs) {σ : L2.St} {H : Hp} {Q : VK} (h : tL K (lLc it g tt te vs) σ H Q) : tLc (tI K it) (tG K ws g) (tT K tt) (tE K te) vs σ H Q := by
  obtain ⟨Z, m, env, v, S', e, s, er, hf, q⟩ := h
  unfold lLc at hf
  obtain ⟨⟨ds, gs, S0⟩, h1, h2⟩ := Option.bind_eq_some_iff.mp hf
  obtain ⟨⟨out, S1⟩, h3, h4⟩ := Option.bind_eq_some_iff.mp h2
  have hz : szOk out.length = true ∧ out = v ∧ S1 = S' := by
    simp only at h4
    split at h4
    · rename_i hz
      cases h4
      exact ⟨hz, rfl, rfl⟩
    · cases h4
  obtain ⟨hz, rfl, rfl⟩ := hz
  refine ⟨Z, m, env, ds, gs, S0, e, s, er, h1, fun m0 J q0 t0 ok => ?_⟩
  subst q0
  intro P hP
  have hPZ : P ∉ Z := (t0.si.fresh hP).2
  have hwz : ∀ z, z ∈ P :: Z → z ∈ Z ∨ m0.H z = none := fun z hz => by
    rcases List.mem_cons.mp hz with e | e
    · exact .inr (by rw [e]; exact hP)
    · exact .inl e
  refine ⟨fun i k H' => ∃ (m' : M) (acc : List D) (xs : List V) (r : List D), m'.H = H' ∧ Ex m0 m' ∧ Sim ⟨K, P :: Z⟩ m' ∧ (∀ n, n ∈ gs → m'.S[n]? = m0.S[n]?) ∧ m'.H P = some (.lst xs) ∧ RepL ⟨K, P :: Z⟩ m' acc xs ∧ k = ds.length - i ∧
      lcL g tt te gs m0.S (wipeE env vs) (ds.drop i) m'.S = some (r, S1) ∧ out = acc ++ r,
    ⟨ds.length, ⟨m0.r, m0.S, upd m0.H P (.lst [])⟩, [], [], out, rfl, .laid hP, Sim.apart t0.si hP, fun _ _ => rfl, upd_same, rfl, rfl, h3, rfl⟩, ?_⟩
  rintro i k H' ⟨m', acc, xs, r, rfl, x', s', gd, hx, ra, rfl, hk, ho⟩
  cases hd : ds.drop i with
  | nil =>
    rw [hd] at hk
    cases hk
    have hl : ds.length ≤ i := List.drop_eq_nil_iff.mp hd
    refine .inl ⟨(ok.go (P :: Z) m' (fun _ h => List.mem_cons_of_mem _ h) hwz x' s' gd i).1 hl, ?_⟩
    have hs : Sim ⟨K, Z⟩ (m'.hide P) := by
      rcases s'.hide hx with z | z
      · exact z
      · exact absurd z hPZ
    have hn : (m'.hide P).H P = none := by show (if P = P then none else m'.H P) = none; rw [if_pos rfl]
    have tt' : Tr ⟨K, Z⟩ m0 (m'.hide P) := ⟨⟨x'.le, x'.ag, fun a o h n => by rw [M.hide_ne (ne_of_none h hP)]; exact x'.pr a o h n, x'.nw⟩, hs⟩
    have qq := q (m'.hide P) P xs rfl (t0.trans s tt') (by rw [ho, List.append_nil]; exact RepL.hide hx acc xs ra) hn
    rw [M.hide_upd hx] at qq
    exact qq
  | cons d rs =>
    rw [hd] at hk
    obtain ⟨hd1, hd2⟩ := drop_cons hd
    have hil : i < ds.length := by
      rcases Nat.lt_or_ge i ds.length with z | z
      · exact z
      · rw [List.getElem?_eq_none z] at hd1; cases hd1
    obtain ⟨go, yl⟩ := (ok.go (P :: Z) m' (fun _ h => List.mem_cons_of_mem _ h) hwz x' s' gd i).2 d hd1
    refine .inr ⟨go, fun H2 => ∃ (m2 : M) (acc : List D) (xs : List V) (r : List D), m2.H = H2 ∧ Ex m0 m2 ∧ Sim ⟨K, P :: Z⟩ m2 ∧ (∀ n, n ∈ gs → m2.S[n]? = m0.S[n]?) ∧ m2.H P = some (.lst xs) ∧ RepL ⟨K, P :: Z⟩ m2 acc xs ∧
      lcL g tt te gs m0.S (wipeE env vs) rs m2.S = some (r, S1) ∧ out = acc ++ r, fun H2 ⟨m2, acc2, xs2, r2, a1, a2, a3, a4, a5, a6, a7, a8⟩ => ⟨ds.length - (i + 1), by omega, m2, acc2, xs2, r2, a1, a2, a3, a4, a5, a6, rfl, by rw [hd2]; exact a7, a8⟩, ?_⟩
    intro x H3 hy
    obtain ⟨m3, rfl, e3, t3, r3⟩ := yl x H3 hy
    have t' : Tr ⟨K, P :: Z⟩ m' m' := .refl s'
    obtain ⟨⟨e4, S4⟩, h4, h5⟩ := Option.bind_eq_some_iff.mp (show ((g d (wipeE env vs) m'.S).bind _) = some (r, S1) from hk)
    obtain ⟨⟨bb, S5⟩, h6, h7⟩ := Option.bind_eq_some_iff.mp h5
    -- what stood before the loop
    have er0 : ER ⟨K, P :: Z⟩ m' (wipeE env vs) (wipe σ vs) := (((er.tr s t0).widen hwz).wipe vs).ex t0.si.bok x'
    refine ⟨P :: Z, m3, wipeE env vs, d, e4, S4, rfl, t3.si, er0.tr s' t3, r3, by rw [e3]; exact h4, fun m4 σ4 q4 t4 er4 ag4 => ⟨wipe_same ag4.1 ag4.2 hsub, ?_⟩⟩
    refine ⟨P :: Z, m4, e4, bb, S5, rfl, t4.si, er4, by rw [q4]; exact h6, fun m5 q5 t5 => ?_⟩
    have t35 := (t3.trans s' (t4.trans t3.si t5))
    have nP : ¬ Bx m' P := (s'.zs P (List.mem_cons_self ..)).2
    have x05 : ∀ {m6 : M}, Tr ⟨K, P :: Z⟩ m' m6 → Ex m0 m6 := fun {m6} t => by
      refine ⟨Nat.le_trans x'.le t.ex.le, fun i h => by rw [t.ex.ag i (Nat.lt_of_lt_of_le h x'.le), x'.ag i h], fun a o h n => t.ex.pr _ _ (x'.pr _ _ h n) (x'.nbx h n), fun i h1 h2 => ?_⟩
      by_cases hl : i < m'.S.length
      · rw [t.ex.ag i hl]; exact x'.nw i h1 hl
      · have e := t.ex.nw i (by omega) h2
        cases z : m0.H (m6.r i) with
        | none => rfl
        | some o =>
          by_cases hb : Bx m0 (m6.r i)
          · obtain ⟨j, hj, ej⟩ := hb
            obtain ⟨ys, ey⟩ := s'.bok j (Nat.lt_of_lt_of_le hj x'.le)
            rw [x'.ag j hj, ej, e] at ey
            cases ey
          · rw [x'.pr _ _ z hb] at e; cases e
    have h7 : (if bb = true then _ else _) = some (r, S1) := h7
    cases bb with
    | true =>
      rw [if_pos rfl] at h7
      show (if (true : Bool) = true then _ else _)
      rw [if_pos rfl]
      obtain ⟨⟨y, S6⟩, h8, h9⟩ := Option.bind_eq_some_iff.mp h7
      refine ⟨P :: Z, m5, e4, y, S6, rfl, t5.si, er4.tr t4.si t5, by rw [q5]; exact h8, fun m6 vy q6 t6 ry => ?_⟩
      have t36 := t35.trans s' t6
      have hx6 : m6.H P = some (.lst xs) := t36.ex.pr _ _ hx nP
      simp only at h9
      split at h9
      · rename_i hgs
        obtain ⟨⟨r', S7⟩, h10, h11⟩ := Option.map_eq_some_iff.mp h9
        simp only [Prod.mk.injEq] at h11
        obtain ⟨hr', hS7⟩ := h11
        have ho2 : out = acc ++ [y] ++ r' := by rw [ho, ← hr']; simp
        refine ⟨xs, hx6, ?_, m6.over P (xs ++ [vy]), acc ++ [y], xs ++ [vy], r', rfl, Ex.over hP (x05 t36), Sim.over t6.si hx6 hPZ, fun n hn => ?_, upd_same, ?_, ?_, ho2⟩
        · rw [ra.len]
          have := szOk_le hz
          rw [ho2] at this
          simp at this
          omega
        · show m6.S[n]? = _
          rw [q6]
          exact hgs n hn
        · exact RepL.over t6.si hx6 hPZ (RepL.app (t36.repL s' ra) (RepL.one ry))
        · show lcL g tt te gs m0.S (wipeE env vs) rs m6.S = some (r', S1)
          rw [q6, ← hS7]
          exact h10
      · cases h9
    | false =>
      rw [if_neg Bool.false_ne_true] at h7
      show (if (false : Bool) = true then _ else _)
      rw [if_neg Bool.false_ne_true]
      simp only at h7
      split at h7
      · rename_i hgs
        refine ⟨m5, acc, xs, r, rfl, x05 t35, t35.si, fun n hn => by rw [q5]; exact hgs n hn, t35.ex.pr _ _ hx nP, t35.repL s' ra, by rw [q5]; exact h7, ho⟩
      · cases h7
theorem lj_lc {elt tg iter : Expr} {ifs : List Expr} {scope : Scope} {own : List (Str × Nat)} {it : IX} {g : GX} {tt : TX} {te : EX} {ws : List Nat} (hc : X.calm = true) (hN : X.N.Nodup) (hi : IJ X tg iter it) (ok : BlkOk X.N X.env.scope scope own)
    (hg : ∀ (s : Shared) (H : Hp) (C : Addr) (cl : List (Str × Addr)) (fp : List Addr), GJ (X.blk s H scope (compEnvC scope cl C X.env) fp) tg ws g)
    (ht : ∀ (s : Shared) (H : Hp) (C : Addr) (cl : List (Str × Addr)) (fp : List Addr), TsJ (X.blk s H scope (compEnvC scope cl C X.env) fp) ifs tt)
    (he : ∀ (s : Shared) (H : Hp) (C : Addr) (cl : List (Str × Addr)) (fp : List Addr), EJ (X.blk s H scope (compEnvC scope cl C X.env) fp) elt te) (hsub : ∀ i, i ∈ ws → i ∈ own.map (·.2))
    (hs : ∀ x, foldedSetIterable iter X.env x = pure x := by intro _; rfl) : LJ X (.ListComp elt [⟨tg, iter, ifs, 0⟩] scope pos) (lLc it g tt te (own.map (·.2))) :=
  pe_wk (pe_lc hc hN hi ok hg ht he hs) fun _ _ _ h => tl_lc hsub h
/-- y = [..] -/
def sAsgL (bx : Bool) (f : LX) (i : Nat) : SX := sAsg (if bx = true then eBx f else eFz f) (gN i)
theorem ts_name {f : EX} {i : Nat} {D : Ends} {σ : L2.St} {H : Hp} (h : tS K (sAsg f (gN i)) D σ H) : tAsg (tE K f) (gName i) D σ H := by
  obtain ⟨Z, m, env, o, e, s, er, hf, q⟩ := h
  unfold sAsg at hf
  obtain ⟨⟨y, S1⟩, h1, h⟩ := Option.bind_eq_some_iff.mp hf
  cases h
  exact ⟨Z, m, env, y, S1, e, s, er, h1, fun m1 vx e1 t1 rx => q m1 _ e1 t1 ((er.tr s t1).set rx i)⟩
theorem tl_name {f : LX} {fe : EX} (hfe : ∀ σ H Q, tE K fe σ H Q → tL K f σ H Q) {t : TE} (ht : ∀ σ H Q, tL K f σ H Q → t σ H Q) {i : Nat} {D : Ends} {σ : L2.St} {H : Hp} (h : tS K (sAsg fe (gN i)) D σ H) : tAsg t (gName i) D σ H :=
  ht _ _ _ (hfe _ _ _ (ts_name h))
theorem sj_setLc {i : Nat} {y : Str} {py spos : Pos} {elt tg iter : Expr} {ifs : List Expr} {scope : Scope} {own : List (Str × Nat)} {it : IX} {g : GX} {tt : TX} {te : EX} {ws : List Nat} (bx : Bool) (hc : X.calm = true) (hN : X.N.Nodup) (hy : X.N[i]? = some y) (hyl : X.env.scope.names.lookup y = some .local)
    (hsw : swapsWith (.ListComp elt [⟨tg, iter, ifs, 0⟩] scope pos) (some (.Name y py)) spos.line X.env = pure true) (hi : IJ X tg iter it) (ok : BlkOk X.N X.env.scope scope own)
    (hg : ∀ (s : Shared) (H : Hp) (C : Addr) (cl : List (Str × Addr)) (fp : List Addr), GJ (X.blk s H scope (compEnvC scope cl C X.env) fp) tg ws g)
    (ht : ∀ (s : Shared) (H : Hp) (C : Addr) (cl : List (Str × Addr)) (fp : List Addr), TsJ (X.blk s H scope (compEnvC scope cl C X.env) fp) ifs tt)
    (he : ∀ (s : Shared) (H : Hp) (C : Addr) (cl : List (Str × Addr)) (fp : List Addr), EJ (X.blk s H scope (compEnvC scope cl C X.env) fp) elt te) (hsub : ∀ i, i ∈ ws → i ∈ own.map (·.2))
    (hs : ∀ x, foldedSetIterable iter X.env x = pure x := by intro _; rfl) : SJ X (.Assign [.Name y py] (.ListComp elt [⟨tg, iter, ifs, 0⟩] scope pos) spos) (sAsgL bx (lLc it g tt te (own.map (·.2))) i) := by
  cases bx with
  | true => exact ps_wk (ps_setLc hc hN hy hyl hsw hi ok hg ht he hs) fun _ _ _ h => tl_name (fun _ _ _ h => tl_bx h) (fun _ _ _ h => tl_lc hsub h) h
  | false => exact ps_wk (ps_setLc hc hN hy hyl hsw hi ok hg ht he hs) fun _ _ _ h => tl_name (fun _ _ _ h => tl_fz h) (fun _ _ _ h => tl_lc hsub h) h
end
/-! defs -/
mutual
def below (k : Nat) : D → Bool
  | .ref n => decide (n < k)
  | .tup xs => belowL k xs
  | .lst xs => belowL k xs
  | .rol xs => belowL k xs
  | .dic _ vs => belowL k vs
  | _ => true
def belowL (k : Nat) : List D → Bool
  | [] => true
  | d :: ds => below k d && belowL k ds
end
def M.cut (m : M) (k : Nat) : M := ⟨m.r, m.S.take k, m.H⟩
section
variable {K : PySem.W.Frag} {c : C} {m m' : M}
theorem Bx.cut {k : Nat} {a : Addr} (h : ¬ Bx m a) : ¬ Bx (m.cut k) a := by
  rintro ⟨i, hi, e⟩
  have hi : i < (m.S.take k).length := hi
  rw [List.length_take] at hi
  exact h ⟨i, by omega, e⟩
mutual
theorem Rep.cut {k : Nat} : ∀ (d : D) (v : V), Rep c m d v → below k d = true → Rep c (m.cut k) d v
  | .non, v, h, _ => h
  | .bl _, v, h, _ => h
  | .int _, v, h, _ => h
  | .str _, v, h, _ => h
  | .tup ds, v, h, b => by
    obtain ⟨a, xs, e, h1, h2⟩ := h
    exact ⟨a, xs, e, h1, RepL.cut ds xs h2 (by simpa [below] using b)⟩
  | .lst ds, v, h, b => by
    obtain ⟨a, xs, e, ⟨h1, h3, h4⟩, h2⟩ := h
    exact ⟨a, xs, e, ⟨h1, Bx.cut h3, h4⟩, RepL.cut ds xs h2 (by simpa [below] using b)⟩
  | .rol ds, v, h, b => by
    obtain ⟨a, xs, e, h1, h2⟩ := h
    exact ⟨a, xs, e, h1, RepL.cut ds xs h2 (by simpa [below] using b)⟩
  | .dic ks vs, v, h, b => by
    obtain ⟨a, kvs, e, ⟨h1, h3, h4⟩, h5, h2⟩ := h
    exact ⟨a, kvs, e, ⟨h1, Bx.cut h3, h4⟩, h5, RepL.cut vs _ h2 (by simpa [below] using b)⟩
  | .ref n, v, h, b => by
    obtain ⟨h1, h2⟩ := h
    have b : n < k := by simpa [below] using b
    refine ⟨?_, h2⟩
    show n < (m.S.take k).length
    rw [List.length_take]
    omega
theorem RepL.cut {k : Nat} : ∀ (ds : List D) (vs : List V), RepL c m ds vs → belowL k ds = true → RepL c (m.cut k) ds vs
  | [], vs, h, _ => h
  | d :: ds, vs, h, b => by
    obtain ⟨y, r, e, h1, h2⟩ := h
    have b : below k d = true ∧ belowL k ds = true := by simpa [belowL] using b
    exact ⟨y, r, e, Rep.cut d y h1 b.1, RepL.cut ds r h2 b.2⟩
end
mutual
theorem Rep.below : ∀ (d : D) (v : V), Rep c m d v → below m.S.length d = true
  | .non, v, h => rfl
  | .bl _, v, h => rfl
  | .int _, v, h => rfl
  | .str _, v, h => rfl
  | .tup ds, v, h => by
    obtain ⟨a, xs, e, h1, h2⟩ := h
    simpa [Pv.below] using RepL.below ds xs h2
  | .lst ds, v, h => by
    obtain ⟨a, xs, e, h1, h2⟩ := h
    simpa [Pv.below] using RepL.below ds xs h2
  | .rol ds, v, h => by
    obtain ⟨a, xs, e, h1, h2⟩ := h
    simpa [Pv.below] using RepL.below ds xs h2
  | .dic ks vs, v, h => by
    obtain ⟨a, kvs, e, _, h5, h2⟩ := h
    simpa [Pv.below] using RepL.below vs _ h2
  | .ref n, v, h => by simpa [Pv.below] using h.1
theorem RepL.below : ∀ (ds : List D) (vs : List V), RepL c m ds vs → belowL m.S.length ds = true
  | [], vs, h => rfl
  | d :: ds, vs, h => by
    obtain ⟨y, r, e, h1, h2⟩ := h
    simp [belowL, Rep.below d y h1, RepL.below ds r h2]
end
/-- a store that names no box beyond it -/
def WfS (S : Sto) : Prop := ∀ (i : Nat) (ds : List D), S[i]? = some (.lst ds) → belowL S.length ds = true
theorem Sim.wf (s : Sim c m) : WfS m.S := fun i ds h => by
  obtain ⟨xs, _, h2⟩ := s.obj i _ h
  exact RepL.below ds xs h2
theorem WfS.set {S : Sto} (h : WfS S) {n : Nat} {ds : List D} (hb : belowL S.length ds = true) : WfS (S.set n (.lst ds)) := fun i es e => by
  rw [List.length_set]
  by_cases hi : n = i
  · subst hi
    by_cases hl : n < S.length
    · rw [List.getElem?_set_self hl] at e; cases e; exact hb
    · rw [List.getElem?_eq_none (by rw [List.length_set]; omega)] at e; cases e
  · rw [List.getElem?_set_ne hi] at e
    exact h i es e
theorem Sim.cut (s : Sim c m) {S' : Sto} {t : Sto} (e : S' ++ t = m.S) (w : WfS S') : Sim c (m.cut S'.length) := by
  have hS : (m.cut S'.length).S = S' := by show m.S.take S'.length = S'; rw [← e]; simp
  have hl : ∀ i, i < S'.length → i < m.S.length := fun i h => by rw [← e, List.length_append]; omega
  refine ⟨fun i j hi hj q => ?_, fun i o h => ?_, fun z hz => ?_⟩
  · rw [hS] at hi hj
    exact s.inj i j (hl i hi) (hl j hj) q
  · rw [hS] at h
    have hi : i < S'.length := by
      rcases Nat.lt_or_ge i S'.length with z | z
      · exact z
      · rw [List.getElem?_eq_none z] at h; cases h
    have h2 : m.S[i]? = some o := by rw [← e, List.getElem?_append_left hi]; exact h
    cases o with
    | lst ds =>
      obtain ⟨xs, h3, h4⟩ := s.obj i _ h2
      exact ⟨xs, h3, RepL.cut ds xs h4 (w i ds h)⟩
  · exact ⟨(s.zs z hz).1, Bx.cut (s.zs z hz).2⟩
theorem Tr.cut {m0 : M} (t : Tr c m0 m) {S' : Sto} {t' : Sto} (e : S' ++ t' = m.S) (w : WfS S') (hle : m0.S.length ≤ S'.length) : Tr c m0 (m.cut S'.length) := by
  have hS : (m.cut S'.length).S = S' := by show m.S.take S'.length = S'; rw [← e]; simp
  refine ⟨⟨by rw [hS]; exact hle, t.ex.ag, t.ex.pr, fun i h1 h2 => t.ex.nw i h1 ?_⟩, t.si.cut e w⟩
  rw [hS] at h2
  rw [← e, List.length_append]
  omega
/-- what is handed back: itself, or a box of the def's own that nobody else holds -/
def Fz (S : Sto) (k : Nat) (d v : D) : Prop := (d = v ∧ below k v = true) ∨ ∃ n ds, d = .ref n ∧ k ≤ n ∧ S[n]? = some (.lst ds) ∧ belowL k ds = true ∧ v = .lst ds
theorem Rep.fz (s : Sim c m) {d v : D} {x : V} {k : Nat} (h : Rep c m d x) (f : Fz m.S k d v) : Rep c (m.cut k) v x := by
  rcases f with ⟨rfl, b⟩ | ⟨n, ds, rfl, hk, hn, hb, rfl⟩
  · exact Rep.cut d x h b
  · obtain ⟨h1, rfl⟩ := h
    obtain ⟨xs, h3, h4⟩ := s.obj n _ hn
    refine ⟨m.r n, xs, rfl, ⟨h3, ?_, fun z => (s.zs _ z).2 ⟨n, h1, rfl⟩⟩, RepL.cut ds xs h4 hb⟩
    rintro ⟨i, hi, e⟩
    have hi : i < (m.S.take k).length := hi
    rw [List.length_take] at hi
    have := s.inj i n (by omega) h1 e
    omega
abbrev Con := List D → Sto → Option (D × Sto)
def spD (K : PySem.W.Frag) (f : Con) : Sp := fun vs H Q _ => ∃ (Z : List Addr) (m : M) (ds : List D) (v : D) (S' : Sto), m.H = H ∧ Sim ⟨K, Z⟩ m ∧ RepL ⟨K, Z⟩ m ds vs ∧ f ds m.S = some (v, S') ∧
  ∀ m' x, m'.S = S' → Tr ⟨K, Z⟩ m m' → Rep ⟨K, Z⟩ m' v x → Q x m'.H
def sE (n : Nat) (ds : List D) : En := ds.map some ++ List.replicate (n - ds.length) none
/-- how a body's end answers the contract -/
def Fin (o : Out) (v : D) (S' : Sto) : Prop := match o with
  | .rt d S2 => (∃ t, S' ++ t = S2) ∧ Fz S2 S'.length d v
  | .nx _ S2 => (∃ t, S' ++ t = S2) ∧ v = .non
  | _ => False
theorem RepL.start : ∀ {ds : List D} {vs : List V}, RepL c m ds vs → ∀ (i : Nat) (d : D), (ds.map some)[i]? = some (some d) → ∃ x, (vs.map some)[i]? = some (some x) ∧ Rep c m d x
  | ds, vs, h, i, d, e => by
    rw [List.getElem?_map] at e
    cases q : ds[i]? with
    | none => rw [q] at e; cases e
    | some d' =>
      rw [q] at e
      have e' : d' = d := by simpa using e
      subst e'
      obtain ⟨x, h1, h2⟩ := h.get q
      exact ⟨x, by rw [List.getElem?_map, h1]; rfl, h2⟩
theorem ER.start {N : List Str} {ds : List D} {vs : List V} (h : RepL c m ds vs) : ER c m (sE N.length ds) (L2.start N vs) := by
  have hl := h.len
  refine ⟨by simp [sE, L2.start, hl], fun i d e => ?_⟩
  unfold sE at e
  unfold L2.start
  by_cases hi : i < ds.length
  · rw [List.getElem?_append_left (by rw [List.length_map]; exact hi)] at e
    obtain ⟨x, h1, h2⟩ := h.start i d e
    exact ⟨x, by rw [List.getElem?_append_left (by rw [List.length_map, hl]; exact hi)]; exact h1, h2⟩
  · rw [List.getElem?_append_right (by rw [List.length_map]; omega), List.getElem?_replicate] at e
    split at e <;> cases e
end
/-- room for k calls, and nothing is being shown -/
structure RG (k : Nat) (A : Around) : Prop where
  room : Room k A
  gd : A.guards = some []
theorem RG.mono {j k : Nat} {A : Around} (h : RG k A) (hj : j ≤ k) : RG j A := ⟨h.room.mono hj, h.gd⟩
/-- a def keeps its contract -/
structure FnG (P : Program) (w : World) (K : PySem.W.Frag) (mg : Str → Option Value) (base : Heap) (k : Nat) (f : Addr) (fd : FuncData) (ps : List Str) (con : Con) : Prop where
  len : ∀ ds S r, con ds S = some r → ds.length = ps.length
  run : ∀ (A : Around) (out : List PySem.Env) (s : Shared) (H : Hp) (args : Args) (us : List Value) (vs : List V) (Q : VK) (E : XK), RG k A → Env0 P w K mg base A out s H → BindsTo s fd args (ps.zip us) → Vals vs us →
    spD K con vs H Q E → codeAny (model P w) A (.call (.ref f) args) (CR CX0 out P w H s Q E) s
section
variable {K : PySem.W.Frag} {P : Program} {w : World} {mg : Str → Option Value} {base : Heap} {x qual : Str} {params : Arguments} {body : List Stmt} {scope : Scope} {dvs : List V} {kws : List (Str × V)} {f : Addr} {fd : FuncData} {N ps : List Str} {k : Nat} {con : Con}
theorem FnG.mono {j : Nat} (F : FnG P w K mg base j f fd ps con) (h : j ≤ k) : FnG P w K mg base k f fd ps con := ⟨F.len, fun A o s H args us vs Q E hr => F.run A o s H args us vs Q E (hr.mono h)⟩
/-- a contract that says less -/
theorem FnG.sub {con' : Con} (F : FnG P w K mg base k f fd ps con) (h : ∀ ds S r, con' ds S = some r → con ds S = some r) : FnG P w K mg base k f fd ps con' :=
  ⟨fun ds S r e => F.len ds S r (h _ _ _ e), fun A o s H args us vs Q E hr e0 hb r hs => F.run A o s H args us vs Q E hr e0 hb r (by
    obtain ⟨Z, m, ds, v, S', a1, a2, a3, a4, a5⟩ := hs
    exact ⟨Z, m, ds, v, S', a1, a2, a3, h _ _ _ a4, a5⟩)⟩
theorem sp_len (len : ∀ ds S r, con ds S = some r → ds.length = ps.length) {vs : List V} {H : Hp} {Q : VK} {E : XK} (h : spD K con vs H Q E) : vs.length = ps.length := by
  obtain ⟨Z, m, ds, v, S', _, _, r, e, _⟩ := h
  rw [r.len]
  exact len _ _ _ e
theorem fn_ok {b : SX} (F : FunD K x qual params body scope dvs kws f fd) (S : FnScope N ps scope) (len : ∀ ds S r, con ds S = some r → ds.length = ps.length)
    (hb : ∀ (cdv : Value) (A : Around) (outer : List PySem.Env) (s : Shared) (H : Hp) (E : XK), RG k (A.deeper (envOfC qual scope s.heap.objs.size f cdv)) → BJ (cxOf CX0 P w K mg base N qual scope f cdv A outer s H E).nox body b)
    (real : ∀ ds S v S', WfS S → belowL S.length ds = true → con ds S = some (v, S') → ∃ o, b (sE N.length ds) S = some o ∧ Fin o v S' ∧ WfS S' ∧ S.length ≤ S'.length) : FnG P w K mg base (k + 1) f fd ps con := by
  obtain ⟨oc, od, dV, kV, doc, pm, an, cdv, ct, osl, rfl, lk, hcd, _, _⟩ := F.ex
  refine ⟨len, fun A out s H args us vs Q E hr e0 hbd rv hsp => ?_⟩
  have hlen := sp_len len hsp
  have hK : K.In s.heap := e0.mod.kin.keeps fun b o e => (e0.bs b o e).1
  have hkd : ∀ y ∈ ps.zip us, scope.names.lookup y.1 = some .local ∨ (scope.names.lookup y.1 = some .cell ∧ ((cellsFrom (s.heap.objs.size + 1) scope.names []).lookup y.1).isSome = true) := by
    rintro ⟨n, v⟩ hy
    rcases S.par n (List.of_mem_zip hy).1 with q | q
    · exact .inl q
    · exact .inr ⟨q, PySem.W.cellsFrom_some _ _ _ (.inl q)⟩
  refine codeAny_call_function hr.room.depth (hK _ _ lk) rfl S.co S.gen rfl (PySem.W.codeRec_of hK hcd) (hbd _ _ _ _ (wpAny_newFunctionEnv_cells S.kind hkd fun env he s1 ic => ?_))
  subst he
  refine ⟨(e0.mod.nolimit.keeps fun b o e => (e0.bs b o e).1).keeps ic.toInCall.keep, codeAny_func ?_⟩
  have I : Inv (cxOf CX0 P w K mg base N qual scope f cdv A out s H E) [] (L2.start N vs) H s1 := inv_start S hr.room.hd e0 hlen rv ic
  have body' := PSs.nox (hb cdv A out s H E ⟨hr.room.deeper _, hr.gd⟩)
  obtain ⟨Z, m, ds, v, S', e, si, r, ef, q⟩ := hsp
  obtain ⟨o, ho, fi, wf, hle⟩ := real ds m.S v S' si.wf (RepL.below ds vs r) ef
  have want : tS K b { nx := fun _ H' => Q .non H', rt := Q } (L2.start N vs) H := by
    refine ⟨Z, m, sE N.length ds, o, e, si, ER.start r, ho, ?_⟩
    cases o with
    | nx e2 S2 =>
      obtain ⟨⟨t, et⟩, rfl⟩ := fi
      intro m2 σ2 q2 t2 er2
      subst q2
      exact q (m2.cut S'.length) .non (by show m2.S.take S'.length = S'; rw [← et]; simp) (t2.cut et wf hle) rfl
    | rt d S2 =>
      obtain ⟨⟨t, et⟩, fz⟩ := fi
      intro m2 x2 q2 t2 r2
      subst q2
      exact q (m2.cut S'.length) x2 (by show m2.S.take S'.length = S'; rw [← et]; simp) (t2.cut et wf hle) (Rep.fz t2.si r2 fz)
    | bk _ _ => exact fi.elim
    | ct _ _ => exact fi.elim
  refine wpAny_mono (body'.run [] s1 (L2.start N vs) H _ I want) (fun fl s' hs => ?_) fun e s' hs => hs
  cases fl with
  | ret u =>
    obtain ⟨v, σ', H', J, rv, q⟩ := hs
    exact ⟨v, H', J.os, J.bare, J.base, J.hok, rv, q⟩
  | next =>
    obtain ⟨σ', H', J, q⟩ := hs
    exact ⟨.non, H', J.os, J.bare, J.base, J.hok, rfl, q⟩
  | brk =>
    obtain ⟨_, _, _, q⟩ := hs
    exact q.elim
  | cont =>
    obtain ⟨_, _, _, q⟩ := hs
    exact q.elim
end
section
variable {X : Cx} {a : Expr} {es : List Expr} {ga gk : AX} {pos p : Pos} {k : Nat} {f : Addr} {fd : FuncData} {ps : List Str} {con : Con} {x : Str}
def eCall (f : Con) (g : AX) : EX := fun e S => (g e S).bind fun p => f p.1 p.2
theorem run_con {pins : List (Addr × Obj)} {σ : L2.St} {H : Hp} {s : Shared} {Q : VK} {us : List Value} {vs : List V} {args : Args} (F : FnG X.prog X.w X.K X.mg X.base k f fd ps con) (hr : RG k X.A)
    (I : Inv X pins σ H s) (r : Vals vs us) (hb : BindsTo s fd args (ps.zip us)) (h : spD X.K con vs H Q E0) : codeAny (model X.prog X.w) X.A (.call (.ref f) args) (fun r s' => match r with
      | .ok (.ret u) => EP X pins σ Q u s'
      | .ok _ => False
      | .error e => X.xe e s') s := by
  refine codeAny_mono (F.run X.A X.stack s H args us vs Q E0 hr I.env0 hb r h) fun r s' hq => ?_
  cases r with
  | error e => exact False.elim hq
  | ok fl =>
    cases fl with
    | ret u => exact I.after hq
    | next => exact False.elim hq
    | brk => exact False.elim hq
    | cont => exact False.elim hq
theorem sp_of {K : PySem.W.Frag} {E : XK} {Z : List Addr} {m m1 : M} {y : List D} {v : D} {S' : Sto} {vs : List V} {Q : VK} (s : Sim ⟨K, Z⟩ m) (t1 : Tr ⟨K, Z⟩ m m1) (rx : RepL ⟨K, Z⟩ m1 y vs) (h2 : con y m1.S = some (v, S'))
    (q : ∀ m' x, m'.S = S' → Tr ⟨K, Z⟩ m m' → Rep ⟨K, Z⟩ m' v x → Q x m'.H) : spD K con vs m1.H Q E := ⟨Z, m1, y, v, S', rfl, t1.si, rx, h2, fun m2 w e2 t2 rw => q m2 w e2 (t1.trans s t2) rw⟩
theorem ej_call (F : FnG X.prog X.w X.K X.mg X.base k f fd ps con) (hr : RG k X.A) (hg : Gl X x) (hm : X.mg x = some (.ref f)) (hk : PySem.W.keepIn X.K (.ref f) = true) (hb : Binds X.K fd ps [])
    (ha : AJ X (a :: es) ga) (hdb : (x == ("__debug__" : Str)) = false := by decide) (he : starEach (a :: es) X.env = (false, eval a X.env) :: starEach es X.env := by rfl) (hpl : (backTo pos (starEach es X.env)).any (·.1) = false := by rfl) :
    EJ X (.Call (.Name x p) (a :: es) [] pos) (eCall con ga) := ⟨fun pins s σ H Q I ⟨Z, m, env, v, S', e, si, er, hf, q⟩ => by
  obtain ⟨⟨y, S1⟩, h1, h2⟩ := Option.bind_eq_some_iff.mp hf
  have hA : tA X.K ga σ H (fun vs H1 => spD X.K con vs H1 Q E0) := ⟨Z, m, env, y, S1, e, si, er, h1, fun m1 vx e1 t1 rx => sp_of si t1 rx (by rw [e1]; exact h2) q⟩
  refine wpAny_Call_Name_kw (ld_glob I hg hm ?_ hdb)
  refine PySem.W.callWith_K (h₀ := X.base) I.ok.mod.kin hk (thn (ha.run pos pins s σ H _ I hA) fun us s1 ⟨vs, H1, I1, r, q1⟩ => ⟨I1.kIn, ?_⟩) he hpl
  have hl : (us ++ []).length = ps.length := by rw [List.append_nil, ← r.length]; exact sp_len F.len q1
  refine wpAny_call (codeAny_mono (run_con F hr I1 r (by simpa using hb s1 us I1.kIn hl) q1) fun r s' hq => ?_)
  cases r with
  | error e => exact hq
  | ok fl => cases fl <;> exact hq⟩
theorem ej_call0 (F : FnG X.prog X.w X.K X.mg X.base k f fd ps con) (hr : RG k X.A) (hg : Gl X x) (hm : X.mg x = some (.ref f)) (hk : PySem.W.keepIn X.K (.ref f) = true) (hb : Binds X.K fd ps [])
    (hdb : (x == ("__debug__" : Str)) = false := by decide) : EJ X (.Call (.Name x p) [] [] pos) (eCall con aNil) := ⟨fun pins s σ H Q I ⟨Z, m, env, v, S', e, si, er, hf, q⟩ => by
  obtain ⟨⟨y, S1⟩, h1, h2⟩ := Option.bind_eq_some_iff.mp hf
  cases h1
  subst e
  have hA : spD X.K con [] m.H Q E0 := sp_of si (.refl si) (show RepL ⟨X.K, Z⟩ m [] [] from rfl) h2 q
  refine wpAny_Call_Name_kw (ld_glob I hg hm ?_ hdb)
  refine PySem.W.callWith_K0 I.kIn hk ?_
  have hl : (([] : List Value) ++ []).length = ps.length := sp_len F.len hA
  refine wpAny_call (codeAny_mono (run_con F hr I .nil (by simpa using hb s [] I.kIn hl) hA) fun r s' hq => ?_)
  cases r with
  | error e => exact hq
  | ok fl => cases fl <;> exact hq⟩
/-- keywords -/
abbrev KJ (X : Cx) (kws : List Keyword) (f : AX) : Prop := PK X kws (tA X.K f)
theorem kj_nil : KJ X [] aNil := ⟨fun pos pins s σ H Q I ⟨Z, m, env, v, S', e, si, er, hf, q⟩ => by
  subst e
  cases hf
  exact pk_nil.run pos pins s σ m.H Q I (q m [] rfl (.refl si) rfl)⟩
theorem kj_cons {kws : List Keyword} {nm : Option Str} {kpos : Pos} {fa : EX} (h : EJ X a fa) (k : KJ X kws gk) : KJ X (⟨nm, a, kpos⟩ :: kws) (aCons fa gk) := ⟨fun pos pins s σ H Q I ⟨Z, m, env, v, S', e, si, er, hf, q⟩ => by
  obtain ⟨x, S1, r, h1, h2, rfl⟩ := aCons_inv hf
  refine (pk_cons h k).run pos pins s σ H Q I ⟨Z, m, env, x, S1, e, si, er, h1, fun m1 vx e1 t1 rx => ?_⟩
  refine ⟨Z, m1, env, r, S', rfl, t1.si, er.tr si t1, by rw [e1]; exact h2, fun m2 vy e2 t2 ry => ?_⟩
  exact q m2 _ e2 (t1.trans si t2) ⟨vx, vy, rfl, t2.rep t1.si rx, ry⟩⟩
/-- all by keywords: g puts them in the parameters' order -/
def eCallK (f : Con) (g : List D → List D) (ga : AX) : EX := fun e S => (ga e S).bind fun p => f (g p.1) p.2
structure KBd (K : PySem.W.Frag) (fd : FuncData) (ps ks : List Str) (g : {α : Type} → List α → List α) : Prop where
  to : ∀ (s : Shared) (ws : List Value), K.In s.heap → ws.length = ks.length → BindsTo s fd ⟨[], ks.zip ws⟩ (ps.zip (g ws))
  rel : ∀ {zs : List V} {ws : List Value}, Vals zs ws → Vals (g zs) (g ws)
  rep : ∀ {c : C} {m : M} {ds : List D} {vs : List V}, RepL c m ds vs → RepL c m (g ds) (g vs)
theorem ej_callK {kws : List Keyword} {ks : List Str} {g : {α : Type} → List α → List α} (F : FnG X.prog X.w X.K X.mg X.base k f fd ps con) (hr : RG k X.A) (hg : Gl X x) (hm : X.mg x = some (.ref f)) (hk : PySem.W.keepIn X.K (.ref f) = true) (hb : KBd X.K fd ps ks g)
    (hkw : KJ X kws gk) (hlen : kws.length = ks.length := by rfl) (hall : (backToKw pos (keywordEach kws X.env)).all (·.1.isSome) = true := by rfl) (hks : (backToKw pos (keywordEach kws X.env)).filterMap (·.1) = ks := by rfl)
    (hdb : (x == ("__debug__" : Str)) = false := by decide) (hls : ∀ e S v, gk e S = some v → v.1.length = kws.length)
    (hpl : ((backTo pos (starEach [] X.env)).any (·.1) || (backToKw pos (keywordEach kws X.env)).any (·.1.isNone)) = false := by rfl) :
    EJ X (.Call (.Name x p) [] kws pos) (eCallK con g gk) := ⟨fun pins s σ H Q I ⟨Z, m, env, v, S', e, si, er, hf, q⟩ => by
  obtain ⟨⟨y, S1⟩, h1, h2⟩ := Option.bind_eq_some_iff.mp hf
  have hyl : y.length = kws.length := hls _ _ _ h1
  have hA : tA X.K gk σ H (fun vs H1 => vs.length = kws.length ∧ spD X.K con (g vs) H1 Q E0) := ⟨Z, m, env, y, S1, e, si, er, h1, fun m1 vx e1 t1 rx => ⟨by rw [rx.len]; exact hyl, sp_of si t1 (hb.rep rx) (by rw [e1]; exact h2) q⟩⟩
  refine wpAny_Call_Name_kw (ld_glob I hg hm ?_ hdb)
  refine PySem.W.callWith_KW0 (h₀ := X.base) I.ok.mod.kin hk hall (thn (hkw.run pos pins s σ H _ I hA) fun ws s2 ⟨zs, H2, I2, rz, hz, q2⟩ => ⟨I2.kIn, ?_⟩) hpl
  rw [hks]
  have hwl : ws.length = ks.length := by rw [← rz.length, hz]; exact hlen
  refine wpAny_call (codeAny_mono (run_con F hr I2 (hb.rel rz) (hb.to s2 ws I2.kIn hwl) q2) fun r s' hq => ?_)
  cases r with
  | error e => exact hq
  | ok fl => cases fl <;> exact hq⟩
end
end Pv
set_option Elab.async false
set_option linter.all false
set_option maxRecDepth 100000
namespace L2
open PySem PySem.Spec PyProof.Rows
/-! a tuple once, no time -/
theorem tuple_mul1 (l : Addr) (items : Array Value) (n : Nat) (dd : Option Addr) (sl : Array (Option Value)) (u : Tok) :
    Meets (Builtin.«tuple.__mul__» ⟨[.ref l, .int 1 u], []⟩) (fun _ R s => s.heap.get? l = some { cls := .type "tuple", dict := dd, data := .seq items n, slots := sl } ∧ R (.ok (.ret (Value.ref l))) s) :=
  .of_wp fun prog w A R s h => by
    obtain ⟨hp, g, d, tk, os⟩ := s
    obtain ⟨hl, h⟩ := h
    have f1 := AutoSeq1.idx_int
    have c1 : (items.isEmpty || (1 : Int) == 1) = true := by simp
    wp_walk using wpAny_loadPart' hl
    repeat (first | (refine wpAny_ite_true (decide_eq_true (by first | rfl | exact c1)) ?_; wp_walk using wpAny_loadPart' hl))
    exact ⟨_, rfl, h⟩
theorem tuple_mul0 (l : Addr) (items : Array Value) (n : Nat) (dd : Option Addr) (sl : Array (Option Value)) (u : Tok) (hne : items.isEmpty = false) :
    Meets (Builtin.«tuple.__mul__» ⟨[.ref l, .int 0 u], []⟩) (fun _ R s => s.heap.get? l = some { cls := .type "tuple", dict := dd, data := .seq items n, slots := sl } ∧
      R (.ok (.ret (Value.ref s.heap.objs.size))) { s with heap := s.heap.push { cls := Value.type "tuple", data := Data.seq #[] }, toks := s.toks }) :=
  .of_wp fun prog w A R s h => by
    obtain ⟨hp, g, d, tk, os⟩ := s
    obtain ⟨hl, h⟩ := h
    have f1 := AutoSeq1.idx_int
    have c1 : (items.isEmpty || (0 : Int) == 1) = false := by simp [hne]
    wp_walk using wpAny_loadPart' hl
    repeat (first | (refine wpAny_ite_false (decide_eq_false (by rw [c1]; exact Bool.false_ne_true)) ?_; wp_walk using wpAny_loadPart' hl))
    exact ⟨_, rfl, h⟩
section
variable {X : Cx}
theorem op_rep1 : OpR X (binaryOp .Mult) (fun x y H Q => ∃ l xs, x = .ref l ∧ y = .int 1 ∧ SqT X.K H l xs ∧ Q (.ref l) H) := by
  intro pins s σ H x y v u Q I rx ry h
  obtain ⟨l, xs, rfl, rfl, hT, q⟩ := h
  cases rx
  obtain ⟨t, rfl⟩ := ry
  obtain ⟨its, r, ⟨⟨cls, dd, data, sl⟩, ho, hc, n, hd⟩, hs⟩ := I.tuple hT
  simp only at hc hd
  subst hc hd
  refine wpAny_binaryOp_repeat_ref (T := "tuple") (U := "int") (by decide) ⟨_, ho, rfl⟩ (fun s' => typeIs_int s' 1 t) noFill_tuple_mul F.fills_int_mul F.slot_int_rmul repeat_tuple F.slot_int_index.lookup
    (call_meets F.slot_int_rmul (typeIs_int s 1 t) F.entry_int_rmul (F.args_int_rmul_2 _ _) (int_rmul_tuple 1 t l its.toArray n dd sl)
      ⟨ho, rfl, ⟨_, ho, rfl⟩, call_meets F.slot_tuple_mul ⟨_, ho, rfl⟩ F.entry_tuple_mul (F.args_tuple_mul_2 _ _) (tuple_mul1 l its.toArray n dd sl t) ⟨ho, ?_⟩⟩)
  exact ⟨.ref l, H, I, rfl, q⟩
theorem op_rep0 : OpR X (binaryOp .Mult) (fun x y H Q => ∃ l xs, x = .ref l ∧ y = .int 0 ∧ SqT X.K H l xs ∧ xs ≠ [] ∧ ∀ p, H p = none → Q (.ref p) (upd H p (.tup []))) := by
  intro pins s σ H x y v u Q I rx ry h
  obtain ⟨l, xs, rfl, rfl, hT, hne, q⟩ := h
  cases rx
  obtain ⟨t, rfl⟩ := ry
  obtain ⟨its, r, ⟨⟨cls, dd, data, sl⟩, ho, hc, n, hd⟩, hs⟩ := I.tuple hT
  simp only at hc hd
  subst hc hd
  have hle : its.length = xs.length := r.length.symm
  have hi : its.toArray.isEmpty = false := by
    cases its with
    | nil => exact absurd (List.eq_nil_of_length_eq_zero hle.symm) hne
    | cons a b => rfl
  refine wpAny_binaryOp_repeat_ref (T := "tuple") (U := "int") (by decide) ⟨_, ho, rfl⟩ (fun s' => typeIs_int s' 0 t) noFill_tuple_mul F.fills_int_mul F.slot_int_rmul repeat_tuple F.slot_int_index.lookup
    (call_meets F.slot_int_rmul (typeIs_int s 0 t) F.entry_int_rmul (F.args_int_rmul_2 _ _) (int_rmul_tuple 0 t l its.toArray n dd sl)
      ⟨ho, rfl, ⟨_, ho, rfl⟩, call_meets F.slot_tuple_mul ⟨_, ho, rfl⟩ F.entry_tuple_mul (F.args_tuple_mul_2 _ _) (tuple_mul0 l its.toArray n dd sl t hi) ⟨ho, ?_⟩⟩)
  refine ⟨.ref s.heap.objs.size, _, I.laid (t' := s.toks) (o := .tup []) (fun b ob q => Heap.get?_push_of_some _ q) (Nat.le_refl _) ?_, rfl, q _ (I.hok.fresh (Nat.le_refl _))⟩
  exact ⟨Nat.zero_le _, [], .nil, IsTup.new _ _⟩
end
end L2
namespace Pv
open PySem PySem.Spec PyProof.Rows L2
section
variable {X : Cx} {K : PySem.W.Frag} {c : C} {m : M}
/-- an empty list of data and of values -/
theorem RepL.nil_iff {ds : List D} {xs : List V} (h : RepL c m ds xs) : xs = [] ↔ ds = [] := by
  cases ds with
  | nil => exact ⟨fun _ => rfl, fun _ => h⟩
  | cons d ds =>
    obtain ⟨y, r, e, _, _⟩ := h
    exact ⟨fun z => (by rw [e] at z; cases z), fun z => (by cases z)⟩
theorem RepL.rep {ds : List D} {xs : List V} (h : RepL c m ds xs) : ∀ k : Nat, RepL c m (List.replicate k ds).flatten (List.replicate k xs).flatten
  | 0 => rfl
  | k + 1 => by
    rw [List.replicate_succ, List.replicate_succ, List.flatten_cons, List.flatten_cons]
    exact h.app (RepL.rep h k)
/-! arithmetic -/
def mulOk (i j : Int) : Bool := decide (i.natAbs.log2 + j.natAbs.log2 < 1000000)
def divOk (j : Int) : Bool := decide (j ≠ 0) && decide (j.natAbs.log2 < 9000)
def powOk (i j : Int) : Bool := decide (0 ≤ j) && decide (j ≤ 1000000) && decide (i.natAbs < 18446744073709551616)
def fAdd : F2 := fun _ a b => match a, b with
  | .int i, .int j => some (.int (i + j))
  | .str x, .str y => if szOk (x.length + y.length) = true then some (.str (x ++ y)) else none
  | .tup xs, .tup ys => if szOk (xs.length + ys.length) = true then some (.tup (xs ++ ys)) else none
  | _, _ => none
def fSub : F2 := fun _ a b => match a, b with
  | .int i, .int j => some (.int (i - j))
  | _, _ => none
def repOk (n : Nat) (k : Int) : Bool := decide (0 < n) && decide (0 ≤ k) && decide (k ≤ 1000) && decide (n ≤ 1000)
def fMul : F2 := fun _ a b => match a, b with
  | .int i, .int j => if mulOk i j = true then some (.int (i * j)) else none
  | .tup xs, .int k => if repOk xs.length k = true then some (.tup (List.replicate k.toNat xs).flatten) else none
  | _, _ => none
def fDiv : F2 := fun _ a b => match a, b with
  | .int i, .int j => if divOk j = true then some (.int (i.fdiv j)) else none
  | _, _ => none
def fMod : F2 := fun _ a b => match a, b with
  | .int i, .int j => if j ≠ 0 then some (.int (i.fmod j)) else none
  | _, _ => none
def fPow : F2 := fun _ a b => match a, b with
  | .int i, .int j => if powOk i j = true then some (.int (i ^ j.toNat)) else none
  | _, _ => none
def fShl : F2 := fun _ a b => match a, b with
  | .int i, .int j => if powOk i j = true then some (.int (i * 2 ^ j.toNat)) else none
  | _, _ => none
def fNeg : F1 := fun _ a => match a with
  | .int i => some (.int (-i))
  | _ => none
theorem no2 {α : Type} {x : α} {P : Prop} (h : none = some x) : P := nomatch h
theorem mulOk_inv {i j : Int} (h : mulOk i j = true) : CMulW i j := by
  have h' : i.natAbs.log2 + j.natAbs.log2 < 1000000 := of_decide_eq_true h
  exact h'
theorem ite_some {α : Type} {c : Prop} [Decidable c] {x y : α} (h : (if c then some x else none) = some y) : c ∧ x = y := by
  split at h
  · cases h; exact ⟨by assumption, rfl⟩
  · cases h
theorem o_add : OpR X (binaryOp .Add) (r2 X.K fAdd) := by
  rintro pins s σ H x y v u Q I rx ry ⟨Z, m, a, b, d, rfl, si, ra, rb, hf, q⟩
  cases a <;> cases b <;> first | exact no2 hf | skip
  · cases hf
    exact op_add pins s σ m.H x y v u Q I rx ry ⟨_, _, ra, rb, q m _ rfl (.refl si) rfl⟩
  · obtain ⟨hz, rfl⟩ := ite_some hf
    exact op_add_str pins s σ m.H x y v u Q I rx ry ⟨_, _, ra, rb, szOk_le hz, q m _ rfl (.refl si) rfl⟩
  · obtain ⟨hz, rfl⟩ := ite_some hf
    obtain ⟨p1, xs, rfl, h1, l1⟩ := ra
    obtain ⟨p2, ys, rfl, h2, l2⟩ := rb
    refine op_catA pins s σ m.H _ _ v u Q I rx ry ⟨p1, p2, xs, ys, rfl, rfl, h1, h2, by rw [l1.len, l2.len]; exact szOk_le hz, fun e => ?_, fun _ e => ?_, fun _ _ p hp => ?_⟩
    · refine q m _ rfl (.refl si) ⟨p2, ys, rfl, h2, ?_⟩
      rw [l1.nil_iff.mp e]
      exact l2
    · refine q m _ rfl (.refl si) ⟨p1, xs, rfl, h1, ?_⟩
      rw [l2.nil_iff.mp e, List.append_nil]
      exact l1
    · exact q ⟨m.r, m.S, upd m.H p (.tup (xs ++ ys))⟩ _ rfl (.laid si hp) (Rep.newTup si hp (l1.app l2))
theorem o_sub : OpR X (binaryOp .Sub) (r2 X.K fSub) := by
  rintro pins s σ H x y v u Q I rx ry ⟨Z, m, a, b, d, rfl, si, ra, rb, hf, q⟩
  cases a <;> cases b <;> first | exact no2 hf | skip
  cases hf
  exact op_sub pins s σ m.H x y v u Q I rx ry ⟨_, _, ra, rb, q m _ rfl (.refl si) rfl⟩
theorem repOk_inv {n : Nat} {k : Int} (h : repOk n k = true) : 0 < n ∧ 0 ≤ k ∧ k ≤ 1000 ∧ n ≤ 1000 := by
  unfold repOk at h
  simp only [Bool.and_eq_true, decide_eq_true_eq] at h
  omega
theorem o_mul : OpR X (binaryOp .Mult) (r2 X.K fMul) := by
  rintro pins s σ H x y v u Q I rx ry ⟨Z, m, a, b, d, rfl, si, ra, rb, hf, q⟩
  cases a <;> cases b <;> first | exact no2 hf | skip
  · obtain ⟨hz, rfl⟩ := ite_some hf
    exact op_mulW pins s σ m.H x y v u Q I rx ry ⟨_, _, ra, rb, mulOk_inv hz, q m _ rfl (.refl si) rfl⟩
  · obtain ⟨hz, rfl⟩ := ite_some hf
    obtain ⟨p1, xs, rfl, h1, l1⟩ := ra
    obtain ⟨z1, z2, z3, z4⟩ := repOk_inv hz
    rename_i ds0 k0
    have hn0 : xs ≠ [] := fun e => by
      rw [l1.nil_iff.mp e] at z1
      cases z1
    have hk : k0 = 0 ∨ k0 = 1 ∨ 2 ≤ k0 := by omega
    rcases hk with rfl | rfl | hk
    · refine op_rep0 pins s σ m.H _ _ v u Q I rx ry ⟨p1, xs, rfl, rb, h1, hn0, fun p hp => ?_⟩
      exact q ⟨m.r, m.S, upd m.H p (.tup _)⟩ _ rfl (.laid si hp) (Rep.newTup (ds := []) si hp rfl)
    · refine op_rep1 pins s σ m.H _ _ v u Q I rx ry ⟨p1, xs, rfl, rb, h1, ?_⟩
      refine q m _ rfl (.refl si) ?_
      have e1 : (List.replicate (Int.toNat 1) ds0).flatten = ds0 := by
        show ds0 ++ [] = ds0
        rw [List.append_nil]
      rw [e1]
      exact ⟨p1, xs, rfl, h1, l1⟩
    · refine op_repT pins s σ m.H _ _ v u Q I rx ry ⟨p1, _, xs, rfl, rb, h1, hn0, hk, z3, by rw [l1.len]; exact z4, fun p hp => ?_⟩
      exact q ⟨m.r, m.S, upd m.H p (.tup _)⟩ _ rfl (.laid si hp) (Rep.newTup si hp (l1.rep _))
theorem o_div : OpR X (binaryOp .FloorDiv) (r2 X.K fDiv) := by
  rintro pins s σ H x y v u Q I rx ry ⟨Z, m, a, b, d, rfl, si, ra, rb, hf, q⟩
  cases a <;> cases b <;> first | exact no2 hf | skip
  obtain ⟨hz, rfl⟩ := ite_some hf
  unfold divOk at hz
  simp only [Bool.and_eq_true, decide_eq_true_eq] at hz
  cases ra
  cases rb
  obtain ⟨t, rfl⟩ := rx
  obtain ⟨t', rfl⟩ := ry
  exact floordiv_int hz.1 ⟨.int _, m.H, I.tok _, ⟨_, rfl⟩, q m _ rfl (.refl si) rfl⟩ (.inl (PyProof.noPylong_of_log2 hz.2))
theorem o_mod : OpR X (binaryOp .Mod) (r2 X.K fMod) := by
  rintro pins s σ H x y v u Q I rx ry ⟨Z, m, a, b, d, rfl, si, ra, rb, hf, q⟩
  cases a <;> cases b <;> first | exact no2 hf | skip
  obtain ⟨hz, rfl⟩ := ite_some hf
  exact op_modN pins s σ m.H x y v u Q I rx ry ⟨_, _, ra, rb, hz, q m _ rfl (.refl si) rfl⟩
theorem powOk_inv {i j : Int} (h : powOk i j = true) : CPow i j := by
  unfold powOk at h
  simp only [Bool.and_eq_true, decide_eq_true_eq] at h
  exact ⟨h.1.1, h.1.2, h.2⟩
theorem o_pow : OpR X (binaryOp .Pow) (r2 X.K fPow) := by
  rintro pins s σ H x y v u Q I rx ry ⟨Z, m, a, b, d, rfl, si, ra, rb, hf, q⟩
  cases a <;> cases b <;> first | exact no2 hf | skip
  obtain ⟨hz, rfl⟩ := ite_some hf
  exact op_pow pins s σ m.H x y v u Q I rx ry ⟨_, _, ra, rb, powOk_inv hz, q m _ rfl (.refl si) rfl⟩
theorem o_shl : OpR X (binaryOp .LShift) (r2 X.K fShl) := by
  rintro pins s σ H x y v u Q I rx ry ⟨Z, m, a, b, d, rfl, si, ra, rb, hf, q⟩
  cases a <;> cases b <;> first | exact no2 hf | skip
  obtain ⟨hz, rfl⟩ := ite_some hf
  exact op_shl pins s σ m.H x y v u Q I rx ry ⟨_, _, ra, rb, powOk_inv hz, q m _ rfl (.refl si) rfl⟩
theorem o_neg : UnR X (unaryOp .USub) (r1 X.K fNeg) := by
  rintro pins s σ H x v Q I rx ⟨Z, m, a, d, rfl, si, ra, hf, q⟩
  cases a <;> first | exact no2 hf | skip
  cases hf
  exact un_neg pins s σ m.H x v Q I rx ⟨_, ra, q m _ rfl (.refl si) rfl⟩
/-- name += e -/
def fIAdd : F2 := fun _ a b => match a, b with
  | .int i, .int j => some (.int (i + j))
  | _, _ => none
theorem io_add : OpR X (inplaceOp .Add) (r2 X.K fIAdd) := by
  rintro pins s σ H x y v u Q I rx ry ⟨Z, m, a, b, d, rfl, si, ra, rb, hf, q⟩
  cases a <;> cases b <;> first | exact no2 hf | skip
  cases hf
  exact iop_add pins s σ m.H x y v u Q I rx ry ⟨_, _, ra, rb, q m _ rfl (.refl si) rfl⟩
/-! order -/
def fCmp (p : Int → Int → Bool) : F2 := fun _ a b => match a, b with
  | .int i, .int j => some (.bl (p i j))
  | _, _ => none
abbrev fLt : F2 := fCmp fun i j => decide (i < j)
abbrev fLe : F2 := fCmp fun i j => decide (i ≤ j)
abbrev fGt : F2 := fCmp fun i j => decide (j < i)
abbrev fGe : F2 := fCmp fun i j => decide (j ≤ i)
theorem o_cmp {op : CmpOp} {p : Int → Int → Bool} (h : OpR X (compareOp op) (rI0 fun i j => .bl (p i j))) : OpR X (compareOp op) (r2 X.K (fCmp p)) := by
  rintro pins s σ H x y v u Q I rx ry ⟨Z, m, a, b, d, rfl, si, ra, rb, hf, q⟩
  cases a <;> cases b <;> first | exact no2 hf | skip
  cases hf
  exact h pins s σ m.H x y v u Q I rx ry ⟨_, _, ra, rb, q m _ rfl (.refl si) rfl⟩
theorem o_lt : OpR X (compareOp .Lt) (r2 X.K fLt) := o_cmp op_lt
theorem o_le : OpR X (compareOp .LtE) (r2 X.K fLe) := o_cmp op_le
theorem o_gt : OpR X (compareOp .Gt) (r2 X.K fGt) := o_cmp op_gt
theorem o_ge : OpR X (compareOp .GtE) (r2 X.K fGe) := o_cmp op_ge
/-! data as the library has it -/
mutual
def pd : D → PyData
  | .non => .none
  | .bl b => .bool b
  | .int i => .int i
  | .str x => .str x
  | .tup xs => .tuple (pdL xs)
  | .lst xs => .list (pdL xs)
  | .rol xs => .list (pdL xs)
  | .dic ks vs => .dict (pdK ks vs)
  | .ref _ => .none
def pdL : List D → List PyData
  | [] => []
  | d :: ds => pd d :: pdL ds
def pdK : List Key → List D → List (PyData × PyData)
  | k :: ks, v :: vs => ((match k with | .inl i => .int i | .inr x => .str x), pd v) :: pdK ks vs
  | _, _ => []
end
/-! no box in it, no dict -/
mutual
def flat : D → Bool
  | .ref _ => false
  | .dic _ _ => false
  | .tup xs => flatL xs
  | .lst xs => flatL xs
  | .rol xs => flatL xs
  | _ => true
def flatL : List D → Bool
  | [] => true
  | d :: ds => flat d && flatL ds
end
def pdS (S : Sto) (d : D) : Option PyData := match d with
  | .ref n => (boxAt S n).bind fun ds => if flatL ds = true then some (.list (pdL ds)) else none
  | d => if flat d = true then some (pd d) else none
mutual
theorem Rep.dp : ∀ (d : D) (v : V), Rep c m d v → flat d = true → Dp c.K m.H v (pd d)
  | .non, v, h, _ => by rw [show v = .non from h]; exact .non
  | .bl b, v, h, _ => by rw [show v = .bl b from h]; exact .bl b
  | .int b, v, h, _ => by rw [show v = .int b from h]; exact .int b
  | .str b, v, h, _ => by rw [show v = .str b from h]; exact .str b
  | .tup ds, v, h, b => by
    obtain ⟨a, xs, rfl, h1, h2⟩ := h
    exact .tup h1 (RepL.dp ds xs h2 (by simpa [flat] using b))
  | .lst ds, v, h, b => by
    obtain ⟨a, xs, rfl, h1, h2⟩ := h
    exact .lst h1.sq (RepL.dp ds xs h2 (by simpa [flat] using b))
  | .rol ds, v, h, b => by
    obtain ⟨a, xs, rfl, h1, h2⟩ := h
    exact .lst h1.sq (RepL.dp ds xs h2 (by simpa [flat] using b))
  | .dic _ _, v, h, b => by simp [flat] at b
  | .ref _, v, h, b => by simp [flat] at b
theorem RepL.dp : ∀ (ds : List D) (vs : List V), RepL c m ds vs → flatL ds = true → DpAll c.K m.H vs (pdL ds)
  | [], vs, h, _ => by rw [show vs = [] from h]; exact .nil
  | d :: ds, vs, h, b => by
    obtain ⟨y, r, rfl, h1, h2⟩ := h
    have b : flat d = true ∧ flatL ds = true := by simpa [flatL] using b
    exact .cons (Rep.dp d y h1 b.1) (RepL.dp ds r h2 b.2)
end
theorem pdS_inv {S : Sto} {d : D} {p : PyData} (e : pdS S d = some p) : (∃ n ds, d = .ref n ∧ boxAt S n = some ds ∧ flatL ds = true ∧ p = .list (pdL ds)) ∨ (flat d = true ∧ pd d = p) := by
  unfold pdS at e
  split at e
  · obtain ⟨ds, h1, h2⟩ := Option.bind_eq_some_iff.mp e
    obtain ⟨hf, rfl⟩ := ite_some h2
    exact .inl ⟨_, ds, rfl, h1, hf, rfl⟩
  · exact .inr (ite_some e)
theorem Sim.dp (s : Sim c m) {d : D} {v : V} {p : PyData} (h : Rep c m d v) (e : pdS m.S d = some p) : Dp c.K m.H v p := by
  rcases pdS_inv e with ⟨n, ds, rfl, h1, hf, rfl⟩ | ⟨hf, rfl⟩
  · obtain ⟨hl, xs, hx, rl⟩ := s.at h1
    rw [h.2]
    exact .lst (SqL.of hx) (RepL.dp ds xs rl hf)
  · exact Rep.dp _ v h hf
/-! == and != -/
def fEq : F2 := fun S a b => match a, b with
  | .int i, .int j => some (.bl (decide (i = j)))
  | .str x, .str y => some (.bl (decide (x = y)))
  | a, b => (pdS S a).bind fun p => (pdS S b).bind fun q => if (SeqAt.shaped p && SeqAt.shaped q) = true then some (.bl (PyData.eqv p q)) else none
def fNe : F2 := fun S a b => (fEq S a b).bind fun d => match d with
  | .bl t => some (.bl (!t))
  | _ => none
theorem fEq_bl {S : Sto} {a b d : D} (h : fEq S a b = some d) : (∃ i j, a = .int i ∧ b = .int j ∧ d = .bl (decide (i = j))) ∨ (∃ i j, a = .str i ∧ b = .str j ∧ d = .bl (decide (i = j))) ∨
    ∃ p q, pdS S a = some p ∧ pdS S b = some q ∧ SeqAt.shaped p = true ∧ SeqAt.shaped q = true ∧ d = .bl (PyData.eqv p q) := by
  have gen : (pdS S a).bind (fun p => (pdS S b).bind fun q => if (SeqAt.shaped p && SeqAt.shaped q) = true then some (D.bl (PyData.eqv p q)) else none) = some d →
      ∃ p q, pdS S a = some p ∧ pdS S b = some q ∧ SeqAt.shaped p = true ∧ SeqAt.shaped q = true ∧ d = .bl (PyData.eqv p q) := fun z => by
    obtain ⟨p, h1, z⟩ := Option.bind_eq_some_iff.mp z
    obtain ⟨q, h2, z⟩ := Option.bind_eq_some_iff.mp z
    obtain ⟨hz, rfl⟩ := ite_some z
    have hz := Bool.and_eq_true_iff.mp hz
    exact ⟨p, q, h1, h2, hz.1, hz.2, rfl⟩
  cases a with
  | int i =>
    cases b with
    | int j => cases h; exact .inl ⟨_, _, rfl, rfl, rfl⟩
    | _ => exact .inr (.inr (gen h))
  | str i =>
    cases b with
    | str j => cases h; exact .inr (.inl ⟨_, _, rfl, rfl, rfl⟩)
    | _ => exact .inr (.inr (gen h))
  | _ => cases b <;> exact .inr (.inr (gen h))
theorem dec_V_int {i j : Int} : decide (V.int i = V.int j) = decide (i = j) := by
  by_cases h : i = j
  · subst h; simp
  · rw [decide_eq_false h, decide_eq_false (fun z => h (V.int.inj z))]
theorem dec_V_str {i j : Str} : decide (V.str i = V.str j) = decide (i = j) := by
  by_cases h : i = j
  · subst h; simp
  · rw [decide_eq_false h, decide_eq_false (fun z => h (V.str.inj z))]
theorem o_eq (hu : X.A.units + 64 < cLine) : OpR X (compareOp .Eq) (r2 X.K fEq) := by
  rintro pins s σ H x y v u Q I rx ry ⟨Z, m, a, b, d, rfl, si, ra, rb, hf, q⟩
  rcases fEq_bl hf with ⟨i, j, rfl, rfl, rfl⟩ | ⟨i, j, rfl, rfl, rfl⟩ | ⟨p, r, h1, h2, h3, h4, rfl⟩
  · cases ra; cases rb
    exact op_eq pins s σ m.H _ _ v u Q I rx ry ⟨rfl, by rw [dec_V_int]; exact q m _ rfl (.refl si) rfl⟩
  · cases ra; cases rb
    exact op_eq pins s σ m.H _ _ v u Q I rx ry ⟨rfl, by rw [dec_V_str]; exact q m _ rfl (.refl si) rfl⟩
  · exact op_eqD hu pins s σ m.H _ _ v u Q I rx ry ⟨p, r, si.dp ra h1, si.dp rb h2, h3, h4, q m _ rfl (.refl si) rfl⟩
theorem o_ne (hu : X.A.units + 64 < cLine) : OpR X (compareOp .NotEq) (r2 X.K fNe) := by
  rintro pins s σ H x y v u Q I rx ry ⟨Z, m, a, b, d, rfl, si, ra, rb, hf, q⟩
  obtain ⟨d', hf, hd⟩ := Option.bind_eq_some_iff.mp hf
  rcases fEq_bl hf with ⟨i, j, rfl, rfl, rfl⟩ | ⟨i, j, rfl, rfl, rfl⟩ | ⟨p, r, h1, h2, h3, h4, rfl⟩
  · cases ra; cases rb; cases hd
    exact op_ne pins s σ m.H _ _ v u Q I rx ry ⟨rfl, by rw [dec_V_int]; exact q m _ rfl (.refl si) rfl⟩
  · cases ra; cases rb; cases hd
    exact op_ne pins s σ m.H _ _ v u Q I rx ry ⟨rfl, by rw [dec_V_str]; exact q m _ rfl (.refl si) rfl⟩
  · cases hd
    exact op_neD hu pins s σ m.H _ _ v u Q I rx ry ⟨p, r, si.dp ra h1, si.dp rb h2, h3, h4, q m _ rfl (.refl si) rfl⟩
/-! is None, is True -/
def isNon : D → Bool
  | .non => true
  | _ => false
theorem Rep.non_iff {d : D} {v : V} (h : Rep c m d v) : decide (v = V.non) = isNon d := by
  cases d with
  | non => rw [show v = .non from h]; rfl
  | bl b => rw [show v = .bl b from h]; rfl
  | int b => rw [show v = .int b from h]; rfl
  | str b => rw [show v = .str b from h]; rfl
  | tup ds => obtain ⟨a, xs, rfl, _⟩ := h; rfl
  | lst ds => obtain ⟨a, xs, rfl, _⟩ := h; rfl
  | rol ds => obtain ⟨a, xs, rfl, _⟩ := h; rfl
  | dic ks ds => obtain ⟨a, xs, rfl, _⟩ := h; rfl
  | ref n => rw [h.2]; rfl
def fIs : F2 := fun _ a b => match b with
  | .non => some (.bl (isNon a))
  | .bl t => match a with
    | .bl u => some (.bl (decide (u = t)))
    | _ => none
  | _ => none
def fIsNot : F2 := fun S a b => (fIs S a b).bind fun d => match d with
  | .bl t => some (.bl (!t))
  | _ => none
theorem o_is : OpR X (compareOp .Is) (r2 X.K fIs) := by
  rintro pins s σ H x y v u Q I rx ry ⟨Z, m, a, b, d, rfl, si, ra, rb, hf, q⟩
  cases b <;> first | exact no2 hf | skip
  · cases hf
    exact op_isN pins s σ m.H _ _ v u Q I rx ry ⟨rb, by rw [ra.non_iff]; exact q m _ rfl (.refl si) rfl⟩
  · cases a <;> first | exact no2 hf | skip
    cases hf
    exact op_isBl pins s σ m.H _ _ v u Q I rx ry ⟨_, _, ra, rb, q m _ rfl (.refl si) rfl⟩
theorem o_isNot : OpR X (compareOp .IsNot) (r2 X.K fIsNot) := by
  rintro pins s σ H x y v u Q I rx ry ⟨Z, m, a, b, d, rfl, si, ra, rb, hf, q⟩
  obtain ⟨d', hf, hd⟩ := Option.bind_eq_some_iff.mp hf
  cases b <;> first | exact no2 hf | skip
  · cases hf; cases hd
    exact op_notN pins s σ m.H _ _ v u Q I rx ry ⟨rb, by rw [ra.non_iff]; exact q m _ rfl (.refl si) rfl⟩
  · cases a <;> first | exact no2 hf | skip
    cases hf; cases hd
    exact op_notBl pins s σ m.H _ _ v u Q I rx ry ⟨_, _, ra, rb, q m _ rfl (.refl si) rfl⟩
/-! sequences -/
def listOf (S : Sto) : D → Option (List D)
  | .lst ds => some ds
  | .rol ds => some ds
  | .ref n => boxAt S n
  | _ => none
def seqOf (S : Sto) : D → Option (List D)
  | .tup ds => some ds
  | d => listOf S d
theorem Sim.list (s : Sim c m) {d : D} {v : V} {ds : List D} (h : Rep c m d v) (e : listOf m.S d = some ds) : ∃ p xs, v = .ref p ∧ SqL c.K m.H p xs ∧ RepL c m ds xs := by
  cases d <;> first | exact no2 e | skip
  · cases e
    obtain ⟨a, xs, rfl, h1, h2⟩ := h
    exact ⟨a, xs, rfl, h1.sq, h2⟩
  · cases e
    obtain ⟨a, xs, rfl, h1, h2⟩ := h
    exact ⟨a, xs, rfl, h1.sq, h2⟩
  · obtain ⟨hl, xs, hx, rl⟩ := s.at (show boxAt m.S _ = some ds from e)
    exact ⟨_, xs, h.2, SqL.of hx, rl⟩
theorem Sim.seq (s : Sim c m) {d : D} {v : V} {ds : List D} (h : Rep c m d v) (e : seqOf m.S d = some ds) : ∃ p xs, v = .ref p ∧ (SqL c.K m.H p xs ∨ SqT c.K m.H p xs) ∧ RepL c m ds xs := by
  cases d with
  | tup es =>
    cases e
    obtain ⟨a, xs, rfl, h1, h2⟩ := h
    exact ⟨a, xs, rfl, .inr h1, h2⟩
  | _ =>
    obtain ⟨p, xs, h1, h2, h3⟩ := s.list h (show listOf m.S _ = some ds from e)
    exact ⟨p, xs, h1, .inl h2, h3⟩
/-- subscripts -/
def fIx : F2 := fun S a b => match a, b with
  | .str z, .int i => if szOk z.length = true then (atI z.cps.toList i).map fun c => .str ⟨#[c]⟩ else none
  | a, .int i => (seqOf S a).bind fun ds => atI ds i
  | _, _ => none
theorem RepL.atI {ds : List D} {vs : List V} {i : Int} {d : D} (h : RepL c m ds vs) (e : L2.atI ds i = some d) : ∃ v, L2.atI vs i = some v ∧ Rep c m d v := by
  unfold L2.atI at e ⊢
  obtain ⟨j, h1, h2⟩ := Option.bind_eq_some_iff.mp e
  obtain ⟨v, h3, h4⟩ := h.get h2
  exact ⟨v, by rw [h.len, h1]; exact h3, h4⟩
theorem fIx_inv {S : Sto} {a b d : D} (h : fIx S a b = some d) : (∃ z i c, a = .str z ∧ b = .int i ∧ szOk z.length = true ∧ atI z.cps.toList i = some c ∧ d = .str ⟨#[c]⟩) ∨ ∃ ds i, b = .int i ∧ seqOf S a = some ds ∧ atI ds i = some d := by
  have gen : ∀ i, (seqOf S a).bind (fun ds => atI ds i) = some d → ∃ ds, seqOf S a = some ds ∧ atI ds i = some d := fun i z => by
    obtain ⟨ds, h1, z⟩ := Option.bind_eq_some_iff.mp z
    exact ⟨ds, h1, z⟩
  cases b <;> first | (cases a <;> exact no2 h) | skip
  rename_i i
  cases a with
  | str z =>
    have h : (if szOk z.length = true then _ else _) = some d := h
    split at h
    · rename_i hz
      obtain ⟨cc, h1, rfl⟩ := Option.map_eq_some_iff.mp h
      exact .inl ⟨z, i, cc, rfl, rfl, hz, h1, rfl⟩
    · cases h
  | _ =>
    obtain ⟨ds, h1, h2⟩ := gen i h
    exact .inr ⟨ds, i, rfl, h1, h2⟩
theorem o_ix : IxR X (r2 X.K fIx) := by
  rintro e1 e2 pins s σ H x y v u Q I rx ry ⟨Z, m, a, b, d, rfl, si, ra, rb, hf, q⟩ hs0
  rcases fIx_inv hf with ⟨z, i, cc, rfl, rfl, hz, h1, rfl⟩ | ⟨ds, i, rfl, h1, h2⟩
  · exact ix_str e1 e2 pins s σ m.H x y v u Q I rx ry ⟨z, i, cc, ra, rb, szOk_le hz, h1, q m _ rfl (.refl si) rfl⟩ hs0
  · obtain ⟨p, xs, rfl, hs, rl⟩ := si.seq ra h1
    obtain ⟨w, hw, rw⟩ := rl.atI h2
    rcases hs with hs | hs
    · exact ix_list e1 e2 pins s σ m.H _ y v u Q I rx ry ⟨p, xs, i, w, rfl, rb, hs, hw, q m _ rfl (.refl si) rw⟩ hs0
    · exact ix_tup e1 e2 pins s σ m.H _ y v u Q I rx ry ⟨p, xs, i, w, rfl, rb, hs, hw, q m _ rfl (.refl si) rw⟩ hs0
/-- slices -/
def cutD (ds : List D) (lo hi : Option Int) : List D := (ds.drop (HT.sIx ds.length 0 lo)).take (HT.sIx ds.length ds.length hi - HT.sIx ds.length 0 lo)
theorem RepL.cutV {ds : List D} {xs : List V} (h : RepL c m ds xs) (lo hi : Option Int) : RepL c m (cutD ds lo hi) (L2.cutV xs lo hi) := by
  unfold cutD L2.cutV
  rw [h.len]
  exact (h.drop _).take _
def fSlT : FS := fun _ a lo hi => match a with
  | .tup ds => some (.tup (cutD ds lo hi))
  | _ => none
def fSlL : FSL := fun S a lo hi => (listOf S a).map fun ds => cutD ds lo hi
theorem s_tup : SlR X (rS X.K fSlT) := by
  rintro pins s σ H x v vl vu lo hi sl Q I rx hs pl pu ⟨Z, m, a, d, rfl, si, ra, hf, q⟩
  cases a <;> first | exact no2 hf | skip
  cases hf
  obtain ⟨p, xs, rfl, h1, h2⟩ := ra
  refine sl_tupA pins s σ m.H _ v vl vu lo hi sl Q I rx hs pl pu ⟨p, xs, rfl, h1, fun ⟨e1, e2⟩ => ?_, fun _ p' hp => ?_⟩
  · refine q m _ rfl (.refl si) ⟨p, xs, rfl, h1, ?_⟩
    have e : L2.cutV xs lo hi = xs := by
      unfold L2.cutV
      rw [e1, e2]
      simp
    have := h2.cutV lo hi
    rw [e] at this
    exact this
  · exact q ⟨m.r, m.S, upd m.H p' (.tup _)⟩ _ rfl (.laid si hp) (Rep.newTup si hp (h2.cutV lo hi))
theorem s_list : SlR X (rSL X.K fSlL) := by
  rintro pins s σ H x v vl vu lo hi sl Q I rx hs pl pu ⟨Z, m, a, d, rfl, si, ra, hf, q⟩
  obtain ⟨ds, h1, rfl⟩ := Option.map_eq_some_iff.mp hf
  obtain ⟨p, xs, rfl, hq, rl⟩ := si.list ra h1
  exact sl_list pins s σ m.H _ v vl vu lo hi sl Q I rx hs pl pu ⟨p, xs, rfl, hq, fun p' hp => q m p' _ rfl (.refl si) (rl.cutV lo hi) hp⟩
/-- list + list, list * int: H l itself is the list -/
def ownOf (S : Sto) : D → Option (List D)
  | .lst ds => some ds
  | .ref n => boxAt S n
  | _ => none
theorem Sim.own (s : Sim c m) {d : D} {v : V} {ds : List D} (h : Rep c m d v) (e : ownOf m.S d = some ds) : ∃ p xs, v = .ref p ∧ m.H p = some (.lst xs) ∧ RepL c m ds xs := by
  cases d <;> first | exact no2 e | skip
  · cases e
    obtain ⟨a, xs, rfl, h1, h2⟩ := h
    exact ⟨a, xs, rfl, h1.1, h2⟩
  · obtain ⟨hl, xs, hx, rl⟩ := s.at (show boxAt m.S _ = some ds from e)
    exact ⟨_, xs, h.2, hx, rl⟩
def fAddL : F2L := fun S a b => (ownOf S a).bind fun x => (ownOf S b).bind fun y => if szOk (x.length + y.length) = true then some (x ++ y) else none
theorem o_addL : OpR X (binaryOp .Add) (r2L X.K fAddL) := by
  rintro pins s σ H x y v u Q I rx ry ⟨Z, m, a, b, d, rfl, si, ra, rb, hf, q⟩
  obtain ⟨da, h1, hf⟩ := Option.bind_eq_some_iff.mp hf
  obtain ⟨db, h2, hf⟩ := Option.bind_eq_some_iff.mp hf
  obtain ⟨hz, rfl⟩ := ite_some hf
  obtain ⟨p1, xs, rfl, e1, l1⟩ := si.own ra h1
  obtain ⟨p2, ys, rfl, e2, l2⟩ := si.own rb h2
  exact op_cat pins s σ m.H _ _ v u Q I rx ry ⟨p1, p2, xs, ys, rfl, rfl, e1, e2, by rw [l1.len, l2.len]; exact szOk_le hz, fun p hp => q m p _ rfl (.refl si) (l1.app l2) hp⟩
def fMulL : F2L := fun S a b => (ownOf S a).bind fun x => match b with
  | .int k => if (decide (0 ≤ k) && decide (k ≤ 100000) && szOk (x.length * k.toNat)) = true then some (List.replicate k.toNat x).flatten else none
  | _ => none
theorem o_mulL : OpR X (binaryOp .Mult) (r2L X.K fMulL) := by
  rintro pins s σ H x y v u Q I rx ry ⟨Z, m, a, b, d, rfl, si, ra, rb, hf, q⟩
  obtain ⟨da, h1, hf⟩ := Option.bind_eq_some_iff.mp hf
  cases b <;> first | exact no2 hf | skip
  obtain ⟨hz, rfl⟩ := ite_some hf
  simp only [Bool.and_eq_true, decide_eq_true_eq] at hz
  obtain ⟨p1, xs, rfl, e1, l1⟩ := si.own ra h1
  exact op_rep pins s σ m.H _ _ v u Q I rx ry ⟨p1, _, xs, rfl, rb, e1, by omega, by omega, by rw [l1.len]; exact szOk_le hz.2, fun p hp => q m p _ rfl (.refl si) (l1.rep _) hp⟩
end
end Pv
set_option Elab.async false
set_option linter.all false
set_option maxRecDepth 100000
namespace Pv
open PySem PySem.Spec PyProof.Rows L2
section
variable {X : Cx} {K : PySem.W.Frag} {c : C} {m : M}
theorem RepL.one_inv {d : D} {xs : List V} (h : RepL c m [d] xs) : ∃ x, xs = [x] ∧ Rep c m d x := by
  obtain ⟨x, r, rfl, h1, h2⟩ := h
  cases h2
  exact ⟨x, rfl, h1⟩
theorem RepL.two_inv {d e : D} {xs : List V} (h : RepL c m [d, e] xs) : ∃ x y, xs = [x, y] ∧ Rep c m d x ∧ Rep c m e y := by
  obtain ⟨x, r, rfl, h1, h2⟩ := h
  obtain ⟨y, rfl, h3⟩ := h2.one_inv
  exact ⟨x, y, rfl, h1, h3⟩
/-- a function of one argument, of two -/
def fn1 (f : F1) : FN := fun S ds => match ds with
  | [d] => f S d
  | _ => none
def fn2 (f : F2) : FN := fun S ds => match ds with
  | [d, e] => f S d e
  | _ => none
def fnl1 (f : Sto → D → Option (List D)) : FNL := fun S ds => match ds with
  | [d] => f S d
  | _ => none
theorem fn1_inv {f : F1} {S : Sto} {ds : List D} {r : D} (h : fn1 f S ds = some r) : ∃ d, ds = [d] ∧ f S d = some r := by
  unfold fn1 at h
  split at h
  · exact ⟨_, rfl, h⟩
  · cases h
theorem fn2_inv {f : F2} {S : Sto} {ds : List D} {r : D} (h : fn2 f S ds = some r) : ∃ d e, ds = [d, e] ∧ f S d e = some r := by
  unfold fn2 at h
  split at h
  · exact ⟨_, _, rfl, h⟩
  · cases h
theorem fnl1_inv {f : Sto → D → Option (List D)} {S : Sto} {ds : List D} {r : List D} (h : fnl1 f S ds = some r) : ∃ d, ds = [d] ∧ f S d = some r := by
  unfold fnl1 at h
  split at h
  · exact ⟨_, rfl, h⟩
  · cases h
/-! len, abs, min, max, int, str, tuple, list -/
def gLen : F1 := fun S d => match d with
  | .str z => if szOk z.length = true then some (.int z.length) else none
  | d => (seqOf S d).map fun ds => .int ds.length
theorem gLen_inv {S : Sto} {d r : D} (h : gLen S d = some r) : (∃ z, d = .str z ∧ szOk z.length = true ∧ r = .int z.length) ∨ ∃ ds, seqOf S d = some ds ∧ r = .int ds.length := by
  unfold gLen at h
  split at h
  · obtain ⟨hz, rfl⟩ := ite_some h
    exact .inl ⟨_, rfl, hz, rfl⟩
  · obtain ⟨ds, h1, rfl⟩ := Option.map_eq_some_iff.mp h
    exact .inr ⟨ds, h1, rfl⟩
theorem b_len : CallR X (.builtin "len") (rN X.K (fn1 gLen)) := by
  rintro pins s σ H xs us Q I r ⟨Z, m, as, d, rfl, si, ra, hf, q⟩
  obtain ⟨a, rfl, hf⟩ := fn1_inv hf
  obtain ⟨x, rfl, rx⟩ := ra.one_inv
  rcases gLen_inv hf with ⟨z, rfl, hz, rfl⟩ | ⟨ds, h1, rfl⟩
  · cases rx
    exact call_len_str pins s σ m.H _ us Q I r ⟨z, rfl, szOk_le hz, q m _ rfl (.refl si) rfl⟩
  · obtain ⟨p, ys, rfl, hs, rl⟩ := si.seq rx h1
    exact call_len_seq pins s σ m.H _ us Q I r ⟨p, ys, rfl, hs, by rw [rl.len]; exact q m _ rfl (.refl si) rfl⟩
def gAbs : F1 := fun _ d => match d with
  | .int i => some (.int (if i < 0 then -i else i))
  | _ => none
theorem b_abs : CallR X (.builtin "abs") (rN X.K (fn1 gAbs)) := by
  rintro pins s σ H xs us Q I r ⟨Z, m, as, d, rfl, si, ra, hf, q⟩
  obtain ⟨a, rfl, hf⟩ := fn1_inv hf
  obtain ⟨x, rfl, rx⟩ := ra.one_inv
  cases a <;> first | exact no2 hf | skip
  cases hf
  cases rx
  exact call_abs pins s σ m.H _ us Q I r ⟨_, rfl, q m _ rfl (.refl si) rfl⟩
def gMax2 : F2 := fun _ a b => match a, b with
  | .int i, .int j => some (.int (if j > i then j else i))
  | _, _ => none
def gMin2 : F2 := fun _ a b => match a, b with
  | .int i, .int j => some (.int (if j < i then j else i))
  | _, _ => none
theorem b_max2 (hc : X.calm = true) : CallR X (.builtin "max") (rN X.K (fn2 gMax2)) := by
  rintro pins s σ H xs us Q I r ⟨Z, m, as, d, rfl, si, ra, hf, q⟩
  obtain ⟨a, b, rfl, hf⟩ := fn2_inv hf
  obtain ⟨x, y, rfl, rx, ry⟩ := ra.two_inv
  cases a <;> cases b <;> first | exact no2 hf | skip
  cases hf; cases rx; cases ry
  exact call_max2 hc pins s σ m.H _ us Q I r ⟨_, _, rfl, q m _ rfl (.refl si) rfl⟩
theorem b_min2 (hc : X.calm = true) : CallR X (.builtin "min") (rN X.K (fn2 gMin2)) := by
  rintro pins s σ H xs us Q I r ⟨Z, m, as, d, rfl, si, ra, hf, q⟩
  obtain ⟨a, b, rfl, hf⟩ := fn2_inv hf
  obtain ⟨x, y, rfl, rx, ry⟩ := ra.two_inv
  cases a <;> cases b <;> first | exact no2 hf | skip
  cases hf; cases rx; cases ry
  exact call_min2 hc pins s σ m.H _ us Q I r ⟨_, _, rfl, q m _ rfl (.refl si) rfl⟩
def gInt : F1 := fun _ d => match d with
  | .int i => some (.int i)
  | .bl b => some (.int (if b then 1 else 0))
  | _ => none
theorem b_int : CallR X (.type "int") (rN X.K (fn1 gInt)) := by
  rintro pins s σ H xs us Q I r ⟨Z, m, as, d, rfl, si, ra, hf, q⟩
  obtain ⟨a, rfl, hf⟩ := fn1_inv hf
  obtain ⟨x, rfl, rx⟩ := ra.one_inv
  cases a <;> first | exact no2 hf | skip
  · cases hf; cases rx
    exact call_int1 pins s σ m.H _ us Q I r (.inr ⟨_, rfl, q m _ rfl (.refl si) rfl⟩)
  · cases hf; cases rx
    exact call_int1 pins s σ m.H _ us Q I r (.inl ⟨_, rfl, q m _ rfl (.refl si) rfl⟩)
def gStr : F1 := fun _ d => match d with
  | .int i => if i.natAbs.log2 < 1920 then some (.str (toString i)) else none
  | .str x => some (.str x)
  | _ => none
theorem b_str : CallR X (.type "str") (rN X.K (fn1 gStr)) := by
  rintro pins s σ H xs us Q I r ⟨Z, m, as, d, rfl, si, ra, hf, q⟩
  obtain ⟨a, rfl, hf⟩ := fn1_inv hf
  obtain ⟨x, rfl, rx⟩ := ra.one_inv
  cases a <;> first | exact no2 hf | skip
  · obtain ⟨hz, rfl⟩ := ite_some hf
    cases rx
    exact call_str_int pins s σ m.H _ us Q I r ⟨_, rfl, hz, q m _ rfl (.refl si) rfl⟩
  · cases hf; cases rx
    exact SkE.call_str_str pins s σ m.H _ us Q I r ⟨_, rfl, q m _ rfl (.refl si) rfl⟩
def gTuple : F1 := fun S d => (seqOf S d).map .tup
theorem b_tuple : CallR X (.type "tuple") (rN X.K (fn1 gTuple)) := by
  rintro pins s σ H xs us Q I r ⟨Z, m, as, d, rfl, si, ra, hf, q⟩
  obtain ⟨a, rfl, hf⟩ := fn1_inv hf
  obtain ⟨x, rfl, rx⟩ := ra.one_inv
  obtain ⟨ds, h1, rfl⟩ := Option.map_eq_some_iff.mp hf
  obtain ⟨p, ys, rfl, hs, rl⟩ := si.seq rx h1
  refine call_tuple_of pins s σ m.H _ us Q I r ⟨p, ys, rfl, ?_⟩
  rcases hs with hs | hs
  · exact .inl ⟨hs, fun l hl => q ⟨m.r, m.S, upd m.H l (.tup ys)⟩ _ rfl (.laid si hl) (Rep.newTup si hl rl)⟩
  · exact .inr ⟨hs, q m _ rfl (.refl si) ⟨p, ys, rfl, hs, rl⟩⟩
def gList : Sto → D → Option (List D) := seqOf
theorem b_list : CallR X (.type "list") (rNL X.K (fnl1 gList)) := by
  rintro pins s σ H xs us Q I r ⟨Z, m, as, d, rfl, si, ra, hf, q⟩
  obtain ⟨a, rfl, hf⟩ := fnl1_inv hf
  obtain ⟨x, rfl, rx⟩ := ra.one_inv
  obtain ⟨p, ys, rfl, hs, rl⟩ := si.seq rx hf
  exact call_list_of pins s σ m.H _ us Q I r ⟨p, ys, rfl, hs, fun l hl => q m l _ rfl (.refl si) rl hl⟩
/-! lists of ints, of bools -/
def intsOf : List D → Option (List Int)
  | [] => some []
  | .int i :: ds => (intsOf ds).map (i :: ·)
  | _ => none
def boolsOf : List D → Option (List Bool)
  | [] => some []
  | .bl i :: ds => (boolsOf ds).map (i :: ·)
  | _ => none
theorem intsOf_inv : ∀ {ds : List D} {ns : List Int}, intsOf ds = some ns → ds = ns.map D.int
  | [], ns, h => by cases h; rfl
  | d :: ds, ns, h => by
    cases d <;> first | exact no2 h | skip
    obtain ⟨ms, h1, rfl⟩ := Option.map_eq_some_iff.mp (show (intsOf ds).map _ = some ns from h)
    rw [intsOf_inv h1]
    rfl
theorem boolsOf_inv : ∀ {ds : List D} {ns : List Bool}, boolsOf ds = some ns → ds = ns.map D.bl
  | [], ns, h => by cases h; rfl
  | d :: ds, ns, h => by
    cases d <;> first | exact no2 h | skip
    obtain ⟨ms, h1, rfl⟩ := Option.map_eq_some_iff.mp (show (boolsOf ds).map _ = some ns from h)
    rw [boolsOf_inv h1]
    rfl
theorem intsOf_map : ∀ ns : List Int, intsOf (ns.map D.int) = some ns
  | [] => rfl
  | n :: ns => by show (intsOf (ns.map D.int)).map _ = _; rw [intsOf_map ns]; rfl
theorem boolsOf_map : ∀ ns : List Bool, boolsOf (ns.map D.bl) = some ns
  | [] => rfl
  | n :: ns => by show (boolsOf (ns.map D.bl)).map _ = _; rw [boolsOf_map ns]; rfl
theorem RepL.ints : ∀ {ns : List Int} {xs : List V}, RepL c m (ns.map D.int) xs → xs = ns.map V.int
  | [], xs, h => h
  | n :: ns, xs, h => by
    obtain ⟨x, r, rfl, h1, h2⟩ := h
    rw [show x = .int n from h1, RepL.ints h2]
    rfl
theorem RepL.bools : ∀ {ns : List Bool} {xs : List V}, RepL c m (ns.map D.bl) xs → xs = ns.map V.bl
  | [], xs, h => h
  | n :: ns, xs, h => by
    obtain ⟨x, r, rfl, h1, h2⟩ := h
    rw [show x = .bl n from h1, RepL.bools h2]
    rfl
theorem RepL.ofInts : ∀ (ns : List Int), RepL c m (ns.map D.int) (ns.map V.int)
  | [] => rfl
  | n :: ns => ⟨_, _, rfl, rfl, RepL.ofInts ns⟩
def gSum : F1 := fun S d => (seqOf S d).bind fun ds => (intsOf ds).map fun ns => .int ns.sum
theorem sum_tup {prog : Program} {w : World} {A : Around} {E : Value → Shared → Prop} {s : Shared} {l : Addr} {its : List Value} {ns : List Int} {Q : Value → Shared → Prop} (hh : A.handled = none) (hl : s.heap.IsTuple l its.toArray) (hi : IntsAre its ns)
    (h : ∀ h' tk t', (∀ b o, s.heap.get? b = some o → h'.get? b = some o) → Q (.int ns.sum t') { s with heap := h', toks := tk }) : wpAny (model prog w) A (call (.builtin "sum") [.ref l]) Q E s := by
  obtain ⟨xs, hx⟩ := hi.allInts.items
  have hn : numsOf its.toArray.toList = ns := by rw [show its.toArray.toList = its from rfl, hi.numsOf]
  rw [hx] at hl hn
  rw [nums_intItems] at hn
  refine PySem.W.ktm_sumG hh hl fun h' tk t' hk => ?_
  have z := h h' tk t' hk
  rw [preSum_eq, List.take_of_length_le (by simp), hn]
  exact z
theorem b_sum (hc : X.calm = true) : CallR X (.builtin "sum") (rN X.K (fn1 gSum)) := by
  rintro pins s σ H xs us Q I r ⟨Z, m, as, d, rfl, si, ra, hf, q⟩
  obtain ⟨a, rfl, hf⟩ := fn1_inv hf
  obtain ⟨x, rfl, rx⟩ := ra.one_inv
  obtain ⟨ds, h1, hf⟩ := Option.bind_eq_some_iff.mp hf
  obtain ⟨ns, h2, rfl⟩ := Option.map_eq_some_iff.mp hf
  obtain ⟨p, ys, rfl, hs, rl⟩ := si.seq rx h1
  rw [intsOf_inv h2] at rl
  rcases hs with hs | hs
  · exact cr_sum hc pins s σ m.H _ us Q I r ⟨p, ns, rfl, by rw [← rl.ints]; exact hs, q m _ rfl (.refl si) rfl⟩
  · rw [rl.ints] at hs
    obtain ⟨its, rv, ht, hz⟩ := I.tuple hs
    rw [Vals.ref1 r]
    exact sum_tup (I.ok.hd hc) ht rv.ints fun h' tk t' hk => ⟨.int ns.sum, m.H, I.kept hk, ⟨t', rfl⟩, q m _ rfl (.refl si) rfl⟩
def maxL : List Int → Int
  | [] => 0
  | n :: ns => ns.foldl max n
def minL : List Int → Int
  | [] => 0
  | n :: ns => ns.foldl min n
theorem foldl_max_spec : ∀ (ns : List Int) (n : Int), (ns.foldl max n = n ∨ ns.foldl max n ∈ ns) ∧ n ≤ ns.foldl max n ∧ ∀ y ∈ ns, y ≤ ns.foldl max n
  | [], n => ⟨.inl rfl, Int.le_refl _, fun _ h => nomatch h⟩
  | a :: ns, n => by
    obtain ⟨h1, h2, h3⟩ := foldl_max_spec ns (max n a)
    refine ⟨?_, ?_, fun y hy => ?_⟩
    · rcases h1 with h1 | h1
      · rw [List.foldl_cons, h1]
        rcases Int.le_total n a with z | z
        · rw [Int.max_eq_right z]; exact .inr (List.mem_cons_self ..)
        · rw [Int.max_eq_left z]; exact .inl rfl
      · exact .inr (List.mem_cons_of_mem _ h1)
    · exact Int.le_trans (Int.le_max_left _ _) h2
    · rcases List.mem_cons.mp hy with rfl | hy
      · exact Int.le_trans (Int.le_max_right _ _) h2
      · exact h3 y hy
theorem foldl_min_spec : ∀ (ns : List Int) (n : Int), (ns.foldl min n = n ∨ ns.foldl min n ∈ ns) ∧ ns.foldl min n ≤ n ∧ ∀ y ∈ ns, ns.foldl min n ≤ y
  | [], n => ⟨.inl rfl, Int.le_refl _, fun _ h => nomatch h⟩
  | a :: ns, n => by
    obtain ⟨h1, h2, h3⟩ := foldl_min_spec ns (min n a)
    refine ⟨?_, ?_, fun y hy => ?_⟩
    · rcases h1 with h1 | h1
      · rw [List.foldl_cons, h1]
        rcases Int.le_total n a with z | z
        · rw [Int.min_eq_left z]; exact .inl rfl
        · rw [Int.min_eq_right z]; exact .inr (List.mem_cons_self ..)
      · exact .inr (List.mem_cons_of_mem _ h1)
    · exact Int.le_trans h2 (Int.min_le_left _ _)
    · rcases List.mem_cons.mp hy with rfl | hy
      · exact Int.le_trans h2 (Int.min_le_right _ _)
      · exact h3 y hy
theorem maxL_spec {ns : List Int} (h : 0 < ns.length) : maxL ns ∈ ns ∧ ∀ y ∈ ns, y ≤ maxL ns := by
  cases ns with
  | nil => cases h
  | cons n ns =>
    obtain ⟨h1, h2, h3⟩ := foldl_max_spec ns n
    refine ⟨?_, fun y hy => ?_⟩
    · rcases h1 with h1 | h1
      · show ns.foldl max n ∈ _
        rw [h1]; exact List.mem_cons_self ..
      · exact List.mem_cons_of_mem _ h1
    · rcases List.mem_cons.mp hy with rfl | hy
      · exact h2
      · exact h3 y hy
theorem minL_spec {ns : List Int} (h : 0 < ns.length) : minL ns ∈ ns ∧ ∀ y ∈ ns, minL ns ≤ y := by
  cases ns with
  | nil => cases h
  | cons n ns =>
    obtain ⟨h1, h2, h3⟩ := foldl_min_spec ns n
    refine ⟨?_, fun y hy => ?_⟩
    · rcases h1 with h1 | h1
      · show ns.foldl min n ∈ _
        rw [h1]; exact List.mem_cons_self ..
      · exact List.mem_cons_of_mem _ h1
    · rcases List.mem_cons.mp hy with rfl | hy
      · exact h2
      · exact h3 y hy
def gMax1 : F1 := fun S d => (listOf S d).bind fun ds => (intsOf ds).bind fun ns => if 0 < ns.length then some (.int (maxL ns)) else none
def gMin1 : F1 := fun S d => (listOf S d).bind fun ds => (intsOf ds).bind fun ns => if 0 < ns.length then some (.int (minL ns)) else none
theorem b_max1 (hc : X.calm = true) : CallR X (.builtin "max") (rN X.K (fn1 gMax1)) := by
  rintro pins s σ H xs us Q I r ⟨Z, m, as, d, rfl, si, ra, hf, q⟩
  obtain ⟨a, rfl, hf⟩ := fn1_inv hf
  obtain ⟨x, rfl, rx⟩ := ra.one_inv
  obtain ⟨ds, h1, hf⟩ := Option.bind_eq_some_iff.mp hf
  obtain ⟨ns, h2, hf⟩ := Option.bind_eq_some_iff.mp hf
  obtain ⟨hz, rfl⟩ := ite_some hf
  obtain ⟨p, ys, rfl, hs, rl⟩ := si.list rx h1
  rw [intsOf_inv h2] at rl
  refine cr_max hc pins s σ m.H _ us Q I r ⟨p, ns, rfl, by rw [← rl.ints]; exact hs, hz, fun k hk hle => ?_⟩
  have e : k = maxL ns := Int.le_antisymm ((maxL_spec hz).2 k hk) (hle _ (maxL_spec hz).1)
  rw [e]
  exact q m _ rfl (.refl si) rfl
theorem b_min1 (hc : X.calm = true) : CallR X (.builtin "min") (rN X.K (fn1 gMin1)) := by
  rintro pins s σ H xs us Q I r ⟨Z, m, as, d, rfl, si, ra, hf, q⟩
  obtain ⟨a, rfl, hf⟩ := fn1_inv hf
  obtain ⟨x, rfl, rx⟩ := ra.one_inv
  obtain ⟨ds, h1, hf⟩ := Option.bind_eq_some_iff.mp hf
  obtain ⟨ns, h2, hf⟩ := Option.bind_eq_some_iff.mp hf
  obtain ⟨hz, rfl⟩ := ite_some hf
  obtain ⟨p, ys, rfl, hs, rl⟩ := si.list rx h1
  rw [intsOf_inv h2] at rl
  refine cr_min hc pins s σ m.H _ us Q I r ⟨p, ns, rfl, by rw [← rl.ints]; exact hs, hz, fun k hk hle => ?_⟩
  have e : k = minL ns := Int.le_antisymm (hle _ (minL_spec hz).1) ((minL_spec hz).2 k hk)
  rw [e]
  exact q m _ rfl (.refl si) rfl
def gAll : F1 := fun S d => (listOf S d).bind fun ds => (boolsOf ds).map fun bs => .bl (bs.all id)
def gAny : F1 := fun S d => (listOf S d).bind fun ds => (boolsOf ds).map fun bs => .bl (bs.any id)
theorem b_all (hc : X.calm = true) : CallR X (.builtin "all") (rN X.K (fn1 gAll)) := by
  rintro pins s σ H xs us Q I r ⟨Z, m, as, d, rfl, si, ra, hf, q⟩
  obtain ⟨a, rfl, hf⟩ := fn1_inv hf
  obtain ⟨x, rfl, rx⟩ := ra.one_inv
  obtain ⟨ds, h1, hf⟩ := Option.bind_eq_some_iff.mp hf
  obtain ⟨ns, h2, rfl⟩ := Option.map_eq_some_iff.mp hf
  obtain ⟨p, ys, rfl, hs, rl⟩ := si.list rx h1
  rw [boolsOf_inv h2] at rl
  exact cr_all hc pins s σ m.H _ us Q I r ⟨p, ns, rfl, by rw [← rl.bools]; exact hs, q m _ rfl (.refl si) rfl⟩
theorem b_any (hc : X.calm = true) : CallR X (.builtin "any") (rN X.K (fn1 gAny)) := by
  rintro pins s σ H xs us Q I r ⟨Z, m, as, d, rfl, si, ra, hf, q⟩
  obtain ⟨a, rfl, hf⟩ := fn1_inv hf
  obtain ⟨x, rfl, rx⟩ := ra.one_inv
  obtain ⟨ds, h1, hf⟩ := Option.bind_eq_some_iff.mp hf
  obtain ⟨ns, h2, rfl⟩ := Option.map_eq_some_iff.mp hf
  obtain ⟨p, ys, rfl, hs, rl⟩ := si.list rx h1
  rw [boolsOf_inv h2] at rl
  exact cr_any hc pins s σ m.H _ us Q I r ⟨p, ns, rfl, by rw [← rl.bools]; exact hs, q m _ rfl (.refl si) rfl⟩
/-! sorted of ints -/
def sortI (ns : List Int) : List Int := ns.mergeSort (fun a b => decide (a ≤ b))
theorem sortI_eq {ns ns' : List Int} (h : ns'.Perm ns) (p : ns'.Pairwise (· ≤ ·)) : ns' = sortI ns := by
  have h1 : (sortI ns).Perm ns := List.mergeSort_perm ns _
  have h2 : (sortI ns).Pairwise (fun a b => decide (a ≤ b) = true) := List.pairwise_mergeSort (le := fun a b => decide (a ≤ b)) (fun a b c h1 h2 => decide_eq_true (Int.le_trans (of_decide_eq_true h1) (of_decide_eq_true h2))) (fun a b => by
    rcases Int.le_total a b with z | z
    · simp [z]
    · simp [z]) ns
  have h3 : (sortI ns).Pairwise (· ≤ ·) := h2.imp fun z => of_decide_eq_true z
  exact List.Perm.eq_of_pairwise (fun a b _ _ h1 h2 => Int.le_antisymm h1 h2) p h3 (h.trans h1.symm)
def gSorted : Sto → D → Option (List D) := fun S d => (listOf S d).bind fun ds => (intsOf ds).map fun ns => (sortI ns).map D.int
theorem b_sorted : CallR X (.builtin "sorted") (rNL X.K (fnl1 gSorted)) := by
  rintro pins s σ H xs us Q I r ⟨Z, m, as, d, rfl, si, ra, hf, q⟩
  obtain ⟨a, rfl, hf⟩ := fnl1_inv hf
  obtain ⟨x, rfl, rx⟩ := ra.one_inv
  obtain ⟨ds, h1, hf⟩ := Option.bind_eq_some_iff.mp hf
  obtain ⟨ns, h2, rfl⟩ := Option.map_eq_some_iff.mp hf
  obtain ⟨p, ys, rfl, hs, rl⟩ := si.list rx h1
  rw [intsOf_inv h2] at rl
  exact cr_sortedI pins s σ m.H _ us Q I r ⟨p, ns, rfl, by rw [← rl.ints]; exact hs, fun ns' l hp hle hl => by rw [sortI_eq hp hle]; exact q m l _ rfl (.refl si) (RepL.ofInts _) hl⟩
/-! isinstance(x, T), T a built-in class -/
def tyN : D → String
  | .non => "NoneType"
  | .bl _ => "bool"
  | .int _ => "int"
  | .str _ => "str"
  | .tup _ => "tuple"
  | .lst _ => "list"
  | .rol _ => "list"
  | .dic _ _ => "dict"
  | .ref _ => "list"
theorem Sim.ty (s : Sim c m) {d : D} {v : V} (h : Rep c m d v) : TyX c.K m.H v (.type (tyN d)) := by
  cases d with
  | non => rw [show v = .non from h]; exact .base .non
  | bl b => rw [show v = .bl b from h]; exact .base (.bl b)
  | int b => rw [show v = .int b from h]; exact .base (.int b)
  | str b => rw [show v = .str b from h]; exact .base (.str b)
  | tup ds =>
    obtain ⟨a, xs, rfl, h1, _⟩ := h
    rcases h1 with (h1 | ⟨o, h1⟩) | ⟨o, its, n, h1, h2, _⟩
    · exact .base (.tup h1)
    · exact .fTuple h1
    · exact .kTuple h1 h2
  | lst ds =>
    obtain ⟨a, xs, rfl, h1, _⟩ := h
    exact .base (.lst h1.1)
  | rol ds =>
    obtain ⟨a, xs, rfl, h1, _⟩ := h
    rcases h1 with ⟨o, h1⟩ | ⟨o, its, n, h1, h2, _⟩
    · exact .base (.frz h1)
    · exact .kList h1 h2
  | dic ks ds =>
    obtain ⟨a, xs, rfl, h1, _⟩ := h
    exact .base (.dK h1.1)
  | ref n =>
    rw [h.2]
    obtain ⟨ds, xs, _, e, _⟩ := s.box h.1
    exact .base (.lst e)
def gIs (T : String) : F1 := fun _ d => (kitB (tyN d) T).map .bl
theorem ej_isi {a : Expr} {f : EX} {T : String} {t : Str} {p p2 pos : Pos} (hg : Gl X "isinstance") (hm : X.mg "isinstance" = none) (hgt : Gl X t) (hmt : X.mg t = none) (hvt : bootBuiltins t = some (.type T)) (ha : EJ X a f)
    (hnt : t ≠ "__name__" := by decide) (hdt : (t == ("__debug__" : Str)) = false := by decide)
    (hs : starEach [a, .Name t p2] X.env = (false, eval a X.env) :: starEach [.Name t p2] X.env := by rfl) (hpl : (backTo pos (starEach [.Name t p2] X.env)).any (·.1) = false := by rfl)
    (hs2 : starEach [.Name t p2] X.env = (false, eval (.Name t p2) X.env) :: starEach [] X.env := by rfl) :
    EJ X (.Call (.Name "isinstance" p) [a, .Name t p2] [] pos) (e1 (gIs T) f) := by
  refine pe_wk (pe_callB call_isi hg hm (by decide +kernel) (pa_cons ha (pa_cons (pe_bltn (v := .ty T) hgt hmt hvt rfl hnt hdt) pa_nil hs2) hs) (by decide) (by decide) hs hpl) fun σ H Q ⟨Z, m, env, v, S', e, s, er, hf, q⟩ => ?_
  obtain ⟨x, h1, h2⟩ := e1_inv hf
  obtain ⟨b, h3, rfl⟩ := Option.map_eq_some_iff.mp h2
  refine ⟨Z, m, env, x, S', e, s, er, h1, fun m1 vx e1 t1 rx => ?_⟩
  exact ⟨vx, .ty T, .type (tyN x), .type T, b, rfl, .ty T, t1.si.ty rx, kit_ty h3, q m1 _ e1 t1 rfl⟩
/-! in, not in -/
def flat1 : D → Bool
  | .non => true
  | .bl _ => true
  | .int _ => true
  | .str _ => true
  | _ => false
def eq1 : D → D → Bool
  | .non, .non => true
  | .bl a, .bl b => a == b
  | .bl a, .int b => (if a then 1 else 0) == b
  | .int a, .bl b => a == (if b then 1 else 0)
  | .int a, .int b => a == b
  | .str a, .str b => a == b
  | _, _ => false
theorem Rep.flatV {d : D} {v : V} (h : Rep c m d v) (f : flat1 d = true) : L2.flatV v = true ∧ ∀ {e : D} {w : V}, Rep c m e w → flat1 e = true → eqV v w = eq1 d e := by
  cases d <;> first | (exact absurd f Bool.false_ne_true) | skip
  all_goals (cases h; refine ⟨rfl, fun {e w} h2 f2 => ?_⟩; cases e <;> first | (exact absurd f2 Bool.false_ne_true) | (cases h2; rfl))
theorem RepL.flatV {d : D} {v : V} (h : Rep c m d v) (f : flat1 d = true) : ∀ {ds : List D} {vs : List V}, RepL c m ds vs → ds.all flat1 = true → vs.all L2.flatV = true ∧ inV v vs = ds.any fun e => eq1 e d
  | [], vs, r, _ => by rw [show vs = [] from r]; exact ⟨rfl, rfl⟩
  | e :: ds, vs, r, g => by
    obtain ⟨x, xr, rfl, h1, h2⟩ := r
    have g : flat1 e = true ∧ ds.all flat1 = true := by simpa using g
    obtain ⟨a1, a2⟩ := RepL.flatV h f h2 g.2
    obtain ⟨b1, b2⟩ := h1.flatV g.1
    refine ⟨by simp [b1]; simpa using a1, ?_⟩
    have a2 : (xr.any fun y => eqV y v) = ds.any fun e => eq1 e d := a2
    show (eqV x v || xr.any fun y => eqV y v) = (eq1 e d || ds.any fun e => eq1 e d)
    rw [a2, b2 h f]
/-- flat things in a sequence; a sign in a text; data in a list -/
def fIn : F2 := fun S a b => match a, b with
  | .str x, .str y => some (.bl (!(Builtin.Str.occurrences y x 0 y.length 1).isEmpty))
  | a, b => (seqOf S b).bind fun ds => if (flat1 a && ds.all flat1) = true then some (.bl (ds.any fun e => eq1 e a)) else
      (pdS S a).bind fun p => if (SeqAt.shaped p && flatL ds && SeqAt.shaped (.list (pdL ds)) && (listOf S b).isSome) = true then some (.bl ((pdL ds).any fun z => PyData.eqv z p)) else none
def fNotIn : F2 := fun S a b => (fIn S a b).bind fun d => match d with
  | .bl t => some (.bl (!t))
  | _ => none
theorem fIn_inv {S : Sto} {a b d : D} (h : fIn S a b = some d) : (∃ x y, a = .str x ∧ b = .str y ∧ d = .bl (!(Builtin.Str.occurrences y x 0 y.length 1).isEmpty)) ∨
    (∃ ds, seqOf S b = some ds ∧ flat1 a = true ∧ ds.all flat1 = true ∧ d = .bl (ds.any fun e => eq1 e a)) ∨
    ∃ ds p, listOf S b = some ds ∧ pdS S a = some p ∧ SeqAt.shaped p = true ∧ flatL ds = true ∧ SeqAt.shaped (.list (pdL ds)) = true ∧ d = .bl ((pdL ds).any fun z => PyData.eqv z p) := by
  unfold fIn at h
  split at h
  · cases h; exact .inl ⟨_, _, rfl, rfl, rfl⟩
  · obtain ⟨ds, h1, h⟩ := Option.bind_eq_some_iff.mp h
    split at h
    · rename_i hf
      cases h
      have hf := Bool.and_eq_true_iff.mp hf
      exact .inr (.inl ⟨ds, h1, hf.1, hf.2, rfl⟩)
    · obtain ⟨p, h2, h⟩ := Option.bind_eq_some_iff.mp h
      obtain ⟨hz, rfl⟩ := ite_some h
      simp only [Bool.and_eq_true] at hz
      obtain ⟨⟨⟨z1, z2⟩, z3⟩, z4⟩ := hz
      obtain ⟨es, he⟩ := Option.isSome_iff_exists.mp z4
      have : es = ds := by
        cases b <;> first | exact no2 he | skip
        all_goals (exact Option.some.inj (he.symm.trans h1))
      subst this
      exact .inr (.inr ⟨es, p, he, h2, z1, z2, z3, rfl⟩)
theorem Sim.dpl (s : Sim c m) {d : D} {v : V} {ds : List D} (h : Rep c m d v) (e : listOf m.S d = some ds) (f : flatL ds = true) : Dp c.K m.H v (.list (pdL ds)) := by
  obtain ⟨p, xs, rfl, h1, h2⟩ := s.list h e
  exact .lst h1 (RepL.dp ds xs h2 f)
theorem o_in (hu : X.A.units + 65 < cLine) : OpR X (compareOp .In) (r2 X.K fIn) := by
  rintro pins s σ H x y v u Q I rx ry ⟨Z, m, a, b, d, rfl, si, ra, rb, hf, q⟩
  rcases fIn_inv hf with ⟨i, j, rfl, rfl, rfl⟩ | ⟨ds, h1, h2, h3, rfl⟩ | ⟨ds, p, h1, h2, h3, h4, h5, rfl⟩
  · exact op_in_str pins s σ m.H x y v u Q I rx ry ⟨_, _, ra, rb, q m _ rfl (.refl si) rfl⟩
  · obtain ⟨p, ys, rfl, hs, rl⟩ := si.seq rb h1
    obtain ⟨a1, a2⟩ := RepL.flatV ra h2 rl h3
    exact op_in_seq pins s σ m.H x _ v u Q I rx ry ⟨p, ys, rfl, hs, (ra.flatV h2).1, a1, by rw [a2]; exact q m _ rfl (.refl si) rfl⟩
  · exact op_inD hu pins s σ m.H x y v u Q I rx ry ⟨p, pdL ds, si.dp ra h2, si.dpl rb h1 h4, h3, h5, q m _ rfl (.refl si) rfl⟩
theorem o_notIn (hu : X.A.units + 65 < cLine) : OpR X (compareOp .NotIn) (r2 X.K fNotIn) := by
  rintro pins s σ H x y v u Q I rx ry ⟨Z, m, a, b, d, rfl, si, ra, rb, hf, q⟩
  obtain ⟨d', hf, hd⟩ := Option.bind_eq_some_iff.mp hf
  rcases fIn_inv hf with ⟨i, j, rfl, rfl, rfl⟩ | ⟨ds, h1, h2, h3, rfl⟩ | ⟨ds, p, h1, h2, h3, h4, h5, rfl⟩
  · cases hd
    exact op_notin_str pins s σ m.H x y v u Q I rx ry ⟨_, _, ra, rb, q m _ rfl (.refl si) rfl⟩
  · cases hd
    obtain ⟨p, ys, rfl, hs, rl⟩ := si.seq rb h1
    obtain ⟨a1, a2⟩ := RepL.flatV ra h2 rl h3
    exact op_notIn_seq pins s σ m.H x _ v u Q I rx ry ⟨p, ys, rfl, hs, (ra.flatV h2).1, a1, by rw [a2]; exact q m _ rfl (.refl si) rfl⟩
  · cases hd
    exact op_notInD hu pins s σ m.H x y v u Q I rx ry ⟨p, pdL ds, si.dp ra h2, si.dpl rb h1 h4, h3, h5, q m _ rfl (.refl si) rfl⟩
end
end Pv
set_option Elab.async false
set_option linter.all false
set_option maxRecDepth 100000
namespace Pv
open PySem PySem.Spec PyProof.Rows L2
section
variable {X : Cx} {K : PySem.W.Frag} {c : C} {m : M} {tg e : Expr} {f g : EX} {pos p : Pos}
/-! what a for walks -/
theorem pi_or {w1 w2 : TI} (h1 : PI X tg e w1) (h2 : PI X tg e w2) : PI X tg e (fun σ H R => w1 σ H R ∨ w2 σ H R) := ⟨fun pins s σ H R I h => by
  rcases h with h | h
  · exact h1.run pins s σ H R I h
  · exact h2.run pins s σ H R I h⟩
def iSeq (f : EX) : IX := fun e S => (f e S).bind fun p => match p.1 with
  | .tup ds => some (ds, [], p.2)
  | .lst ds => some (ds, [], p.2)
  | .rol ds => some (ds, [], p.2)
  | .ref n => (boxAt p.2 n).map fun ds => (ds, [n], p.2)
  | _ => none
theorem Ex.sqT {m m' : M} (b : BoxOk m) (x : Ex m m') {a : Addr} {xs : List V} (h : SqT K m.H a xs) : SqT K m'.H a xs := by
  rcases h with h | h
  · exact .inl (x.rd h (b.notTup h))
  · exact .inr h
theorem it_tup {Z : List Addr} {a : Addr} {xs : List V} {ds : List D} (s : Sim ⟨K, Z⟩ m) (h : SqT K m.H a xs) (r : RepL ⟨K, Z⟩ m ds xs) : ItOk K Z m ds [] (Itt K a) := ⟨fun Z' m' hz hw x si gd i => by
  have h' : SqT K m'.H a xs := x.sqT s.bok h
  have r' : RepL ⟨K, Z'⟩ m' ds xs := RepL.mono s.bok x ds xs (RepL.widen hw ds xs r)
  refine ⟨fun hi => ⟨xs, h', by rw [r.len]; exact hi⟩, fun d hd => ?_⟩
  obtain ⟨v, hv, rv⟩ := r'.get hd
  refine ⟨⟨xs, v, h', hv⟩, fun y H3 ⟨e, hy⟩ => ?_⟩
  subst e
  have e2 := hy xs h'
  rw [hv] at e2
  cases e2
  exact ⟨m', rfl, rfl, .refl si, rv⟩⟩
/-- a list that stays: the list at a through all that the loop does -/
theorem it_lst {Z : List Addr} {a : Addr} {ds : List D} {gs : List Nat}
    (h : ∀ Z' m', (∀ z, z ∈ Z → z ∈ Z') → (∀ z, z ∈ Z' → z ∈ Z ∨ m.H z = none) → Ex m m' → Sim ⟨K, Z'⟩ m' → (∀ n, n ∈ gs → m'.S[n]? = m.S[n]?) → ∃ xs, SqL K m'.H a xs ∧ RepL ⟨K, Z'⟩ m' ds xs) : ItOk K Z m ds gs (Itl K a) := ⟨fun Z' m' hz hw x si gd i => by
  obtain ⟨xs, h', r'⟩ := h Z' m' hz hw x si gd
  refine ⟨fun hi => ⟨xs, h', by rw [r'.len]; exact hi⟩, fun d hd => ?_⟩
  obtain ⟨v, hv, rv⟩ := r'.get hd
  refine ⟨⟨xs, v, h', hv⟩, fun y H3 ⟨e, hy⟩ => ?_⟩
  subst e
  have e2 := hy xs h'
  rw [hv] at e2
  cases e2
  exact ⟨m', rfl, rfl, .refl si, rv⟩⟩
/-- what stays of a list through a loop -/
def Stays (K : PySem.W.Frag) (Z : List Addr) (m : M) (a : Addr) (ds : List D) (gs : List Nat) : Prop :=
  ∀ Z' m', (∀ z, z ∈ Z → z ∈ Z') → (∀ z, z ∈ Z' → z ∈ Z ∨ m.H z = none) → Ex m m' → Sim ⟨K, Z'⟩ m' → (∀ n, n ∈ gs → m'.S[n]? = m.S[n]?) → ∃ xs, SqL K m'.H a xs ∧ RepL ⟨K, Z'⟩ m' ds xs
def gsOf : D → List Nat
  | .ref n => [n]
  | _ => []
theorem Sim.stays {Z : List Addr} (s : Sim ⟨K, Z⟩ m) {d : D} {v : V} {ds : List D} (h : Rep ⟨K, Z⟩ m d v) (e : listOf m.S d = some ds) : ∃ a, v = .ref a ∧ Stays K Z m a ds (gsOf d) := by
  cases d <;> first | exact no2 e | skip
  · cases e
    obtain ⟨a, xs, rfl, h1, h2⟩ := h
    exact ⟨a, rfl, fun Z' m' hz hw x si gd => ⟨xs, SqL.of (x.pr _ _ h1.1 h1.2.1), RepL.mono s.bok x _ xs (RepL.widen hw _ xs h2)⟩⟩
  · cases e
    obtain ⟨a, xs, rfl, h1, h2⟩ := h
    refine ⟨a, rfl, fun Z' m' hz hw x si gd => ⟨xs, ?_, RepL.mono s.bok x _ xs (RepL.widen hw _ xs h2)⟩⟩
    rcases h1 with ⟨o, h1⟩ | h1
    · exact .inl (.inr ⟨o, x.pr _ _ h1 (s.bok.notFrz h1)⟩)
    · exact .inr h1
  · rename_i n
    obtain ⟨h1, rfl⟩ := h
    refine ⟨_, rfl, fun Z' m' hz hw x si gd => ?_⟩
    have e1 : m'.S[n]? = some (.lst ds) := by rw [gd n (List.mem_singleton.mpr rfl)]; exact boxAt_inv e
    obtain ⟨xs, h3, h4⟩ := si.obj n _ e1
    rw [x.ag n h1] at h3
    exact ⟨xs, SqL.of h3, h4⟩
theorem iSeq_inv {f : EX} {e : En} {S S' : Sto} {ds : List D} {gs : List Nat} (h : iSeq f e S = some (ds, gs, S')) : ∃ d, f e S = some (d, S') ∧ ((d = .tup ds ∧ gs = []) ∨ (listOf S' d = some ds ∧ gs = gsOf d)) := by
  unfold iSeq at h
  obtain ⟨⟨d, S1⟩, h1, h⟩ := Option.bind_eq_some_iff.mp h
  cases d <;> first | exact no2 h | skip
  · cases h; exact ⟨_, h1, .inl ⟨rfl, rfl⟩⟩
  · cases h; exact ⟨_, h1, .inr ⟨rfl, rfl⟩⟩
  · cases h; exact ⟨_, h1, .inr ⟨rfl, rfl⟩⟩
  · obtain ⟨es, h2, h3⟩ := Option.map_eq_some_iff.mp (show (boxAt S1 _).map _ = _ from h)
    cases h3
    exact ⟨_, h1, .inr ⟨h2, rfl⟩⟩
theorem ij_seq (h : EJ X e f) : IJ X tg e (iSeq f) := pi_wk (pi_or (pi_list h) (pi_tup h)) fun σ H R ⟨Z, m, env, ds, gs, S', eH, s, er, hf, q⟩ => by
  obtain ⟨d, h1, hd⟩ := iSeq_inv hf
  rcases hd with ⟨rfl, rfl⟩ | ⟨h2, rfl⟩
  · refine .inr ⟨Z, m, env, _, S', eH, s, er, h1, fun m1 vx e1 t1 rx => ?_⟩
    obtain ⟨a, xs, rfl, h3, h4⟩ := rx
    exact ⟨a, rfl, ⟨xs, h3⟩, q m1 _ e1 t1 (it_tup t1.si h3 h4)⟩
  · refine .inl ⟨Z, m, env, _, S', eH, s, er, h1, fun m1 vx e1 t1 rx => ?_⟩
    obtain ⟨p, xs, rfl, h3, h4⟩ := t1.si.list rx (by rw [e1]; exact h2)
    obtain ⟨a, e2, st⟩ := t1.si.stays rx (by rw [e1]; exact h2)
    cases e2
    exact ⟨p, rfl, ⟨xs, h3⟩, q m1 _ e1 t1 (it_lst st)⟩
/-- ranges -/
def rgD (a b : Int) : List D := (List.range (b - a).toNat).map fun (i : Nat) => D.int (a + (i : Int))
def rgOk (i : Int) : Bool := decide (-4611686018427387904 ≤ i) && decide (i < 4611686018427387904)
theorem rgOk_inv {i : Int} (h : rgOk i = true) : -(2 ^ 62) ≤ i ∧ i < 2 ^ 62 := by
  unfold rgOk at h
  simp only [Bool.and_eq_true, decide_eq_true_eq] at h
  exact ⟨h.1, h.2⟩
theorem it_rg {Z : List Addr} {a b : Int} : ItOk K Z m (rgD a b) [] (Itr a (b - a).toNat) := ⟨fun Z' m' hz hw x si gd i => by
  unfold rgD
  refine ⟨fun hi => (by rw [List.length_map, List.length_range] at hi; exact hi), fun d hd => ?_⟩
  rw [List.getElem?_map] at hd
  by_cases hi : i < (b - a).toNat
  · rw [List.getElem?_range hi] at hd
    cases hd
    refine ⟨hi, fun y H3 ⟨e1, e2⟩ => ?_⟩
    subst e1 e2
    exact ⟨m', rfl, rfl, .refl si, rfl⟩
  · rw [List.getElem?_eq_none (by simpa using hi)] at hd
    cases hd⟩
def iRg1 (f : EX) : IX := fun e S => (f e S).bind fun p => match p.1 with
  | .int j => if rgOk j = true then some (rgD 0 j, [], p.2) else none
  | _ => none
def iRg2 (f g : EX) : IX := fun e S => (f e S).bind fun p => (g e p.2).bind fun q => match p.1, q.1 with
  | .int i, .int j => if (rgOk i && rgOk j) = true then some (rgD i j, [], q.2) else none
  | _, _ => none
theorem ij_rg1 (hg : Gl X "range") (hm : X.mg "range" = none) (h : EJ X e f) (hs : starEach [e] X.env = [(false, eval e X.env)] := by rfl) (hs' : starEach [e] X.env = (false, eval e X.env) :: starEach [] X.env := by rfl) : IJ X tg (.Call (.Name "range" p) [e] [] pos) (iRg1 f) :=
  pi_wk (pi_range1 hg hm (aj_cons h aj_nil hs') hs) fun σ H R ⟨Z, m, env, ds, gs, S', eH, s, er, hf, q⟩ => by
    unfold iRg1 at hf
    obtain ⟨⟨d, S1⟩, h1, h⟩ := Option.bind_eq_some_iff.mp hf
    refine ⟨Z, m, env, [d], S1, eH, s, er, by unfold aCons; rw [h1]; rfl, fun m1 vx e1 t1 rx0 => ?_⟩
    obtain ⟨x, rfl, rx⟩ := rx0.one_inv
    cases d <;> first | exact no2 h | skip
    rename_i i
    obtain ⟨hz, hz2⟩ := ite_some h
    simp only [Prod.mk.injEq] at hz2
    obtain ⟨rfl, rfl, rfl⟩ := hz2
    cases rx
    obtain ⟨b1, b2⟩ := rgOk_inv hz
    refine ⟨i, rfl, b1, b2, q m1 _ e1 t1 ?_⟩
    have z := it_rg (K := X.K) (Z := Z) (m := m1) (a := 0) (b := i)
    rw [Int.sub_zero] at z
    exact z
theorem ij_rg2 {e2 : Expr} (hg : Gl X "range") (hm : X.mg "range" = none) (h : EJ X e f) (k : EJ X e2 g) (hs : starEach [e, e2] X.env = [(false, eval e X.env), (false, eval e2 X.env)] := by rfl) (hs2 : starEach [e2] X.env = [(false, eval e2 X.env)] := by rfl)
    (hs' : starEach [e, e2] X.env = (false, eval e X.env) :: starEach [e2] X.env := by rfl) (hs'' : starEach [e2] X.env = (false, eval e2 X.env) :: starEach [] X.env := by rfl) : IJ X tg (.Call (.Name "range" p) [e, e2] [] pos) (iRg2 f g) :=
  pi_wk (pi_range2 hg hm (aj_cons h (aj_cons k aj_nil hs'') hs') hs hs2) fun σ H R ⟨Z, m, env, ds, gs, S', eH, s, er, hf, q⟩ => by
    unfold iRg2 at hf
    obtain ⟨⟨d, S1⟩, h1, h⟩ := Option.bind_eq_some_iff.mp hf
    obtain ⟨⟨d2, S2⟩, h2, h⟩ := Option.bind_eq_some_iff.mp h
    refine ⟨Z, m, env, [d, d2], S2, eH, s, er, by unfold aCons; rw [h1]; show ((aCons g aNil env S1).map _) = _; unfold aCons; rw [h2]; rfl, fun m1 vx e1 t1 rx0 => ?_⟩
    obtain ⟨x, y, rfl, rx, ry⟩ := rx0.two_inv
    cases d <;> cases d2 <;> first | exact no2 h | skip
    obtain ⟨hz, hz2⟩ := ite_some h
    simp only [Prod.mk.injEq] at hz2
    obtain ⟨rfl, rfl, rfl⟩ := hz2
    cases rx
    cases ry
    have hz := Bool.and_eq_true_iff.mp hz
    obtain ⟨b1, b2⟩ := rgOk_inv hz.1
    obtain ⟨b3, b4⟩ := rgOk_inv hz.2
    exact ⟨_, _, rfl, ⟨b1, b2, b3, b4⟩, q m1 _ e1 t1 it_rg⟩
/-- zip of two tuples, of two lists -/
def zipD (xs ys : List D) : List D := List.zipWith (fun x y => D.tup [x, y]) xs ys
def iZip' (f g : EX) : IX := fun e S => (f e S).bind fun p => (g e p.2).bind fun q => match p.1, q.1 with
  | .tup xs, .tup ys => some (zipD xs ys, [], q.2)
  | a, b => (listOf q.2 a).bind fun xs => (listOf q.2 b).map fun ys => (zipD xs ys, gsOf a ++ gsOf b, q.2)
theorem iZip_inv {f g : EX} {e : En} {S S' : Sto} {ds : List D} {gs : List Nat} (h : iZip' f g e S = some (ds, gs, S')) : ∃ a b S1, f e S = some (a, S1) ∧ g e S1 = some (b, S') ∧
    ((∃ xs ys, a = .tup xs ∧ b = .tup ys ∧ ds = zipD xs ys ∧ gs = []) ∨ ∃ xs ys, listOf S' a = some xs ∧ listOf S' b = some ys ∧ ds = zipD xs ys ∧ gs = gsOf a ++ gsOf b) := by
  unfold iZip' at h
  obtain ⟨⟨a, S1⟩, h1, h⟩ := Option.bind_eq_some_iff.mp h
  obtain ⟨⟨b, S2⟩, h2, h⟩ := Option.bind_eq_some_iff.mp h
  have gen : (listOf S2 a).bind (fun xs => (listOf S2 b).map fun ys => (zipD xs ys, gsOf a ++ gsOf b, S2)) = some (ds, gs, S') → ∃ xs ys, listOf S' a = some xs ∧ listOf S' b = some ys ∧ ds = zipD xs ys ∧ gs = gsOf a ++ gsOf b ∧ S2 = S' := fun z => by
    obtain ⟨xs, z1, z⟩ := Option.bind_eq_some_iff.mp z
    obtain ⟨ys, z2, z⟩ := Option.map_eq_some_iff.mp z
    simp only [Prod.mk.injEq] at z
    obtain ⟨rfl, rfl, rfl⟩ := z
    exact ⟨xs, ys, z1, z2, rfl, rfl, rfl⟩
  by_cases ht : ∃ xs ys, a = .tup xs ∧ b = .tup ys
  · obtain ⟨xs, ys, rfl, rfl⟩ := ht
    cases h
    exact ⟨_, _, S1, h1, h2, .inl ⟨xs, ys, rfl, rfl, rfl, rfl⟩⟩
  · have h' : (listOf S2 a).bind (fun xs => (listOf S2 b).map fun ys => (zipD xs ys, gsOf a ++ gsOf b, S2)) = some (ds, gs, S') := by
      cases a with
      | tup xs =>
        cases b with
        | tup ys => exact absurd ⟨xs, ys, rfl, rfl⟩ ht
        | _ => exact h
      | _ => cases b <;> exact h
    obtain ⟨xs, ys, z1, z2, z3, z4, rfl⟩ := gen h'
    exact ⟨a, b, S1, h1, h2, .inr ⟨xs, ys, z1, z2, z3, z4⟩⟩
theorem zipD_get {xs ys : List D} {i : Nat} {d : D} (h : (zipD xs ys)[i]? = some d) : ∃ x y, xs[i]? = some x ∧ ys[i]? = some y ∧ d = .tup [x, y] := by
  unfold zipD at h
  rw [List.getElem?_zipWith] at h
  cases h1 : xs[i]? with
  | none => rw [h1] at h; cases h
  | some x =>
    cases h2 : ys[i]? with
    | none => rw [h1, h2] at h; cases h
    | some y => rw [h1, h2] at h; cases h; exact ⟨x, y, rfl, rfl, rfl⟩
theorem zipD_len {xs ys : List D} {i : Nat} (h : (zipD xs ys).length ≤ i) : xs.length ≤ i ∨ ys.length ≤ i := by
  unfold zipD at h
  rw [List.length_zipWith] at h
  omega
theorem pair_new {Z : List Addr} (si : Sim ⟨K, Z⟩ m) {T : Addr} (hT : m.H T = none) {x y : D} {vx vy : V} (rx : Rep ⟨K, Z⟩ m x vx) (ry : Rep ⟨K, Z⟩ m y vy) :
    ∃ m3 : M, m3.H = upd m.H T (.tup [vx, vy]) ∧ m3.S = m.S ∧ Tr ⟨K, Z⟩ m m3 ∧ Rep ⟨K, Z⟩ m3 (.tup [x, y]) (.ref T) :=
  ⟨⟨m.r, m.S, upd m.H T (.tup [vx, vy])⟩, rfl, rfl, .laid si hT, Rep.newTup si hT ⟨vx, [vy], rfl, rx, vy, [], rfl, ry, rfl⟩⟩
theorem it_zipL {Z : List Addr} {a b : Addr} {xs ys : List D} {g1 g2 : List Nat} (h1 : Stays K Z m a xs g1) (h2 : Stays K Z m b ys g2) : ItOk K Z m (zipD xs ys) (g1 ++ g2) (Itz K a b) := ⟨fun Z' m' hz hw x si gd i => by
  obtain ⟨us, q1, r1⟩ := h1 Z' m' hz hw x si fun n hn => gd n (List.mem_append_left _ hn)
  obtain ⟨ws, q2, r2⟩ := h2 Z' m' hz hw x si fun n hn => gd n (List.mem_append_right _ hn)
  refine ⟨fun hi => ⟨us, ws, q1, q2, by rw [r1.len, r2.len]; exact zipD_len hi⟩, fun d hd => ?_⟩
  obtain ⟨x1, y1, hx, hy, rfl⟩ := zipD_get hd
  obtain ⟨v1, hv1, rv1⟩ := r1.get hx
  obtain ⟨v2, hv2, rv2⟩ := r2.get hy
  refine ⟨⟨us, ws, v1, v2, q1, q2, hv1, hv2⟩, fun v H3 ⟨T, u1, u2, eT, hT, eH, f1, f2⟩ => ?_⟩
  subst eT eH
  have e1 := f1 us q1
  have e2 := f2 ws q2
  rw [hv1] at e1
  rw [hv2] at e2
  cases e1
  cases e2
  exact pair_new si hT rv1 rv2⟩
theorem it_zipT {Z : List Addr} {a b : Addr} {xs ys : List D} {us ws : List V} (s : Sim ⟨K, Z⟩ m) (q1 : SqT K m.H a us) (r1 : RepL ⟨K, Z⟩ m xs us) (q2 : SqT K m.H b ws) (r2 : RepL ⟨K, Z⟩ m ys ws) : ItOk K Z m (zipD xs ys) [] (RZ.ItzT K a b) := ⟨fun Z' m' hz hw x si gd i => by
  have q1 : SqT K m'.H a us := x.sqT s.bok q1
  have q2 : SqT K m'.H b ws := x.sqT s.bok q2
  have r1 : RepL ⟨K, Z'⟩ m' xs us := RepL.mono s.bok x xs us (RepL.widen hw xs us r1)
  have r2 : RepL ⟨K, Z'⟩ m' ys ws := RepL.mono s.bok x ys ws (RepL.widen hw ys ws r2)
  refine ⟨fun hi => ⟨us, ws, q1, q2, by rw [r1.len, r2.len]; exact zipD_len hi⟩, fun d hd => ?_⟩
  obtain ⟨x1, y1, hx, hy, rfl⟩ := zipD_get hd
  obtain ⟨v1, hv1, rv1⟩ := r1.get hx
  obtain ⟨v2, hv2, rv2⟩ := r2.get hy
  refine ⟨⟨us, ws, v1, v2, q1, q2, hv1, hv2⟩, fun v H3 ⟨T, u1, u2, eT, hT, eH, f1, f2⟩ => ?_⟩
  subst eT eH
  have e1 := f1 us q1
  have e2 := f2 ws q2
  rw [hv1] at e1
  rw [hv2] at e2
  cases e1
  cases e2
  exact pair_new si hT rv1 rv2⟩
theorem ij_zip {e2 : Expr} {elts : List Expr} {kk : Nat} {tpos : Pos} (hg : Gl X "zip") (hm : X.mg "zip" = none) (h : EJ X e f) (k : EJ X e2 g)
    (hs : starEach [e, e2] X.env = (false, eval e X.env) :: starEach [e2] X.env := by rfl) (hpl : (backTo pos (starEach [e2] X.env)).any (·.1) = false := by rfl) (hs'' : starEach [e2] X.env = (false, eval e2 X.env) :: starEach [] X.env := by rfl) :
    IJ X (.Tuple elts kk tpos) (.Call (.Name "zip" p) [e, e2] [] pos) (iZip' f g) :=
  pi_wk (RZ.pi_zipA hg hm (aj_cons h (aj_cons k aj_nil hs'') hs) hs hpl) fun σ H R ⟨Z, m, env, ds, gs, S', eH, s, er, hf, q⟩ => by
    obtain ⟨a, b, S1, h1, h2, hd⟩ := iZip_inv hf
    refine ⟨Z, m, env, [a, b], S', eH, s, er, by unfold aCons; rw [h1]; show ((aCons g aNil env S1).map _) = _; unfold aCons; rw [h2]; rfl, fun m1 vx e1 t1 rx0 => ?_⟩
    obtain ⟨x, y, rfl, rx, ry⟩ := rx0.two_inv
    rcases hd with ⟨xs, ys, rfl, rfl, rfl, rfl⟩ | ⟨xs, ys, l1, l2, rfl, rfl⟩
    · obtain ⟨pa, us, rfl, q1, r1⟩ := rx
      obtain ⟨pb, ws, rfl, q2, r2⟩ := ry
      exact ⟨pa, pb, us, ws, rfl, .inr ⟨q1, q2, q m1 _ e1 t1 (it_zipT t1.si q1 r1 q2 r2)⟩⟩
    · obtain ⟨pa, us, rfl, q1, r1⟩ := t1.si.list rx (by rw [e1]; exact l1)
      obtain ⟨pb, ws, rfl, q2, r2⟩ := t1.si.list ry (by rw [e1]; exact l2)
      obtain ⟨_, ea, sa⟩ := t1.si.stays rx (by rw [e1]; exact l1)
      obtain ⟨_, eb, sb⟩ := t1.si.stays ry (by rw [e1]; exact l2)
      cases ea
      cases eb
      exact ⟨pa, pb, us, ws, rfl, .inl ⟨q1, q2, q m1 _ e1 t1 (it_zipL sa sb)⟩⟩
/-- enumerate of a list -/
def enumD (xs : List D) : List D := (List.range xs.length).zipWith (fun i x => D.tup [.int (i : Nat), x]) xs
theorem enumD_get {xs : List D} {i : Nat} {d : D} (h : (enumD xs)[i]? = some d) : ∃ x, xs[i]? = some x ∧ d = .tup [.int (i : Nat), x] := by
  unfold enumD at h
  rw [List.getElem?_zipWith] at h
  cases h1 : xs[i]? with
  | none =>
    rw [h1] at h
    cases h2 : (List.range xs.length)[i]? with
    | none => rw [h2] at h; cases h
    | some j => rw [h2] at h; cases h
  | some x =>
    have hi : i < xs.length := by
      rcases Nat.lt_or_ge i xs.length with z | z
      · exact z
      · rw [List.getElem?_eq_none z] at h1; cases h1
    rw [h1, List.getElem?_range hi] at h
    cases h
    exact ⟨x, rfl, rfl⟩
theorem enumD_len {xs : List D} : (enumD xs).length = xs.length := by
  unfold enumD
  rw [List.length_zipWith, List.length_range, Nat.min_self]
def iEnumL (f : EX) : IX := fun e S => (f e S).bind fun p => (listOf p.2 p.1).map fun ds => (enumD ds, gsOf p.1, p.2)
theorem it_enumL {Z : List Addr} {a : Addr} {xs : List D} {g1 : List Nat} (h1 : Stays K Z m a xs g1) : ItOk K Z m (enumD xs) g1 (Ite K a) := ⟨fun Z' m' hz hw x si gd i => by
  obtain ⟨us, q1, r1⟩ := h1 Z' m' hz hw x si gd
  refine ⟨fun hi => ⟨us, q1, by rw [r1.len, ← enumD_len (xs := xs)]; exact hi⟩, fun d hd => ?_⟩
  obtain ⟨x1, hx, rfl⟩ := enumD_get hd
  obtain ⟨v1, hv1, rv1⟩ := r1.get hx
  refine ⟨⟨us, v1, q1, hv1⟩, fun v H3 ⟨T, u1, eT, hT, eH, f1⟩ => ?_⟩
  subst eT eH
  have e1 := f1 us q1
  rw [hv1] at e1
  cases e1
  exact pair_new si hT (rfl : Rep ⟨K, Z'⟩ m' (.int (i : Nat)) (.int (i : Nat))) rv1⟩
theorem ij_enumL {elts : List Expr} {kk : Nat} {tpos : Pos} (hg : Gl X "enumerate") (hm : X.mg "enumerate" = none) (h : EJ X e f) (hs : starEach [e] X.env = [(false, eval e X.env)] := by rfl) (hs' : starEach [e] X.env = (false, eval e X.env) :: starEach [] X.env := by rfl) :
    IJ X (.Tuple elts kk tpos) (.Call (.Name "enumerate" p) [e] [] pos) (iEnumL f) :=
  pi_wk (pi_enum hg hm (aj_cons h aj_nil hs') hs) fun σ H R ⟨Z, m, env, ds, gs, S', eH, s, er, hf, q⟩ => by
    unfold iEnumL at hf
    obtain ⟨⟨d, S1⟩, h1, h⟩ := Option.bind_eq_some_iff.mp hf
    obtain ⟨xs, h2, h3⟩ := Option.map_eq_some_iff.mp h
    simp only [Prod.mk.injEq] at h3
    obtain ⟨rfl, rfl, rfl⟩ := h3
    refine ⟨Z, m, env, [d], S1, eH, s, er, by unfold aCons; rw [h1]; rfl, fun m1 vx e1 t1 rx0 => ?_⟩
    obtain ⟨x, rfl, rx1⟩ := rx0.one_inv
    obtain ⟨pa, us, rfl, q1, r1⟩ := t1.si.list rx1 (by rw [e1]; exact h2)
    obtain ⟨_, ea, sa⟩ := t1.si.stays rx1 (by rw [e1]; exact h2)
    cases ea
    exact ⟨pa, us, rfl, q1, q m1 _ e1 t1 (it_enumL sa)⟩
end
end Pv
set_option Elab.async false
set_option linter.all false
set_option maxRecDepth 100000
namespace Pv
open PySem PySem.Spec PyProof.Rows L2
section
variable {X : Cx} {K : PySem.W.Frag} {c : C} {m : M} {o e : Expr} {es : List Expr} {f : EX} {ga : AX} {pos apos : Pos}
/-! methods of a list in a box -/
abbrev FM := Sto → List D → List D → Option (D × List D)
def eMt (h : FM) (fo : EX) (ga : AX) : EX := fun e S => (fo e S).bind fun p => (ga e p.2).bind fun q => match p.1 with
  | .ref n => (boxAt q.2 n).bind fun ds => (h q.2 ds q.1).map fun r => (r.1, q.2.set n (.lst r.2))
  | _ => none
theorem eMt_inv {h : FM} {fo : EX} {ga : AX} {e : En} {S S' : Sto} {v : D} (hh : eMt h fo ga e S = some (v, S')) : ∃ n S1 args S2 ds ds', fo e S = some (.ref n, S1) ∧ ga e S1 = some (args, S2) ∧ boxAt S2 n = some ds ∧ h S2 ds args = some (v, ds') ∧ S' = S2.set n (.lst ds') := by
  unfold eMt at hh
  obtain ⟨⟨a, S1⟩, h1, hh⟩ := Option.bind_eq_some_iff.mp hh
  obtain ⟨⟨args, S2⟩, h2, hh⟩ := Option.bind_eq_some_iff.mp hh
  cases a <;> first | exact no2 hh | skip
  obtain ⟨ds, h3, hh⟩ := Option.bind_eq_some_iff.mp hh
  obtain ⟨⟨r, ds'⟩, h4, hh⟩ := Option.map_eq_some_iff.mp hh
  simp only [Prod.mk.injEq] at hh
  obtain ⟨rfl, rfl⟩ := hh
  exact ⟨_, S1, args, S2, ds, ds', h1, h2, h3, h4, rfl⟩
def rMt (K : PySem.W.Frag) (h : FM) : V → List V → Hp → VK → Prop := fun x xs H Q => ∃ (Z : List Addr) (m : M) (n : Nat) (ds args : List D) (r : D) (ds' : List D), m.H = H ∧ Sim ⟨K, Z⟩ m ∧ x = .ref (m.r n) ∧ n < m.S.length ∧ boxAt m.S n = some ds ∧ RepL ⟨K, Z⟩ m args xs ∧ h m.S ds args = some (r, ds') ∧
  ∀ m' v, m'.S = m.S.set n (.lst ds') → Tr ⟨K, Z⟩ m m' → Rep ⟨K, Z⟩ m' r v → Q v m'.H
theorem te_mt {h : FM} {fo : EX} {ga : AX} {σ : L2.St} {H : Hp} {Q : VK} (hh : tE K (eMt h fo ga) σ H Q) : tBM K "list" (rMt K h) (tE K fo) (tA K ga) σ H Q := by
  obtain ⟨Z, m, env, v, S', e, s, er, hf, q⟩ := hh
  obtain ⟨n, S1, args, S2, ds, ds', h1, h2, h3, h4, rfl⟩ := eMt_inv hf
  refine ⟨Z, m, env, .ref n, S1, e, s, er, h1, fun m1 vx e1 t1 rx => ?_⟩
  obtain ⟨hl, rfl⟩ := rx
  obtain ⟨ds0, xs, _, hx, _⟩ := t1.si.box hl
  refine ⟨.inl ⟨rfl, xs, SqL.of hx⟩, Z, m1, env, args, S2, rfl, t1.si, er.tr s t1, by rw [e1]; exact h2, fun m2 vy e2 t2 ry => ?_⟩
  refine ⟨Z, m2, n, ds, args, v, ds', rfl, t2.si, by rw [t2.ex.ag n hl], Nat.lt_of_lt_of_le hl t2.ex.le, by rw [e2]; exact h3, ry, by rw [e2]; exact h4, fun m3 w e3 t3 rw => ?_⟩
  exact q m3 w (by rw [e3, e2]) ((t1.trans s t2).trans s t3) rw
theorem ej_bm {name : Str} {id : String} {h : FM} (pa : PlainAttrs "list") (slot : Slot "list" name id) (hty : typeOf (.builtin id) = pure (.type "method_descriptor")) (hm : MtR X id (rMt X.K h)) (ho : EJ X o f) (ha : AJ X (e :: es) ga)
    (hbase : attributeBase o name X.env (eval o X.env) = eval o X.env := by rfl)
    (hfew : ((backTo pos (starEach (e :: es) X.env)).all (fun x => !x.1) && (backToKw pos (keywordEach [] X.env)).all (fun x => x.1.isSome)
      && decide ((e :: es).length + ([] : List Keyword).length + (if ([] : List Keyword).isEmpty then 0 else 1) < 30)) = true := by rfl)
    (hline : (apos.endLine == pos.line) = true := by rfl) (hs : starEach (e :: es) X.env = (false, eval e X.env) :: starEach es X.env := by rfl) (hpl : (backTo pos (starEach es X.env)).any (·.1) = false := by rfl) :
    EJ X (.Call (.Attribute o name apos) (e :: es) [] pos) (eMt h f ga) := pe_wk (pe_bm pa slot hty hm ho ha hbase hfew hline hs hpl) fun _ _ _ h => te_mt h
theorem ej_bm0 {name : Str} {id : String} {h : FM} (pa : PlainAttrs "list") (slot : Slot "list" name id) (hty : typeOf (.builtin id) = pure (.type "method_descriptor")) (hm : MtR X id (rMt X.K h)) (ho : EJ X o f)
    (hbase : attributeBase o name X.env (eval o X.env) = eval o X.env := by rfl) (hline : (apos.endLine == pos.line) = true := by rfl) :
    EJ X (.Call (.Attribute o name apos) [] [] pos) (eMt h f aNil) := pe_wk (pe_bm0 pa slot hty hm ho hbase hline) fun σ H Q ⟨Z, m, env, v, S', e, s, er, hf, q⟩ => by
  obtain ⟨n, S1, args, S2, ds, ds', h1, h2, h3, h4, rfl⟩ := eMt_inv hf
  cases h2
  refine ⟨Z, m, env, .ref n, _, e, s, er, h1, fun m1 vx e1 t1 rx => ?_⟩
  obtain ⟨hl, rfl⟩ := rx
  obtain ⟨ds0, xs, _, hx, _⟩ := t1.si.box hl
  refine ⟨.inl ⟨rfl, xs, SqL.of hx⟩, Z, m1, n, ds, [], v, ds', rfl, t1.si, rfl, hl, by rw [e1]; exact h3, rfl, by rw [e1]; exact h4, fun m3 w e3 t3 rw => ?_⟩
  exact q m3 w (by rw [e3, e1]) (t1.trans s t3) rw
def hAppend : FM := fun _ ds args => match args with
  | [d] => if szOk (ds.length + 1) = true then some (.non, ds ++ [d]) else none
  | _ => none
theorem m_append : MtR X "list.append" (rMt X.K hAppend) := by
  rintro pins s σ H x xs v us Q I rx rxs ⟨Z, m, n, ds, args, r, ds', rfl, si, rfl, hl, hb, ra, hf, q⟩
  match args, hf, ra with
  | [d], hf, ra =>
    obtain ⟨hz, h2⟩ := ite_some hf
    simp only [Prod.mk.injEq] at h2
    obtain ⟨rfl, rfl⟩ := h2
    obtain ⟨y, rfl, ry⟩ := ra.one_inv
    obtain ⟨_, ys, hy, ly⟩ := si.at hb
    have hz' := szOk_le hz
    refine mt_append pins s σ m.H _ _ v us Q I rx rxs ⟨m.r n, ys, y, rfl, rfl, hy, by rw [ly.len]; omega, ?_⟩
    exact q (m.put n (ds ++ [d]) (ys ++ [y])) .non rfl (.put si hl (ly.app (RepL.one ry))) rfl
def hExtend : FM := fun S ds args => match args with
  | [d] => (ownOf S d).bind fun es => if szOk (ds.length + es.length) = true then some (.non, ds ++ es) else none
  | _ => none
theorem m_extend : MtR X "list.extend" (rMt X.K hExtend) := by
  rintro pins s σ H x xs v us Q I rx rxs ⟨Z, m, n, ds, args, r, ds', rfl, si, rfl, hl, hb, ra, hf, q⟩
  match args, hf, ra with
  | [d], hf, ra =>
    obtain ⟨es, h1, h2⟩ := Option.bind_eq_some_iff.mp (show (ownOf m.S d).bind _ = _ from hf)
    obtain ⟨hz, h2⟩ := ite_some h2
    simp only [Prod.mk.injEq] at h2
    obtain ⟨rfl, rfl⟩ := h2
    obtain ⟨y, rfl, ry⟩ := ra.one_inv
    obtain ⟨_, ys, hy, ly⟩ := si.at hb
    obtain ⟨p, zs, rfl, hp, lz⟩ := si.own ry h1
    refine mt_extend pins s σ m.H _ _ v us Q I rx rxs ⟨m.r n, p, ys, zs, rfl, rfl, hy, hp, by rw [ly.len, lz.len]; exact szOk_le hz, ?_⟩
    exact q (m.put n (ds ++ es) (ys ++ zs)) .non rfl (.put si hl (ly.app lz)) rfl
theorem RepL.dropLast : ∀ {ds : List D} {vs : List V}, RepL c m ds vs → RepL c m ds.dropLast vs.dropLast
  | ds, vs, h => by
    have e := h.take (ds.length - 1)
    rw [List.dropLast_eq_take, List.dropLast_eq_take, h.len]
    exact e
def hPop : FM := fun _ ds args => match args with
  | [] => (ds[ds.length - 1]?).map fun d => (d, ds.dropLast)
  | _ => none
theorem m_pop : MtR X "list.pop" (rMt X.K hPop) := by
  rintro pins s σ H x xs v us Q I rx rxs ⟨Z, m, n, ds, args, r, ds', rfl, si, rfl, hl, hb, ra, hf, q⟩
  match args, hf, ra with
  | [], hf, ra =>
    obtain ⟨d, h1, h2⟩ := Option.map_eq_some_iff.mp (show (ds[ds.length - 1]?).map _ = _ from hf)
    simp only [Prod.mk.injEq] at h2
    obtain ⟨rfl, rfl⟩ := h2
    cases ra
    obtain ⟨_, ys, hy, ly⟩ := si.at hb
    obtain ⟨y, e1, ry⟩ := ly.get h1
    refine mt_pop pins s σ m.H _ _ v us Q I rx rxs ⟨m.r n, ys, y, rfl, rfl, hy, by rw [ly.len]; exact e1, ?_⟩
    have t := Tr.put si hl ly.dropLast
    exact q (m.put n ds.dropLast ys.dropLast) y rfl t (t.rep si ry)
/-! repr -/
def reprOk (p : PyData) : Bool := p.showable && decide (p.depth ≤ 60) && p.leavesShort 600 && decide (p.weight ≤ 20000) && !p.hasDict
def gRepr : F1 := fun S d => (pdS S d).bind fun p => if reprOk p = true then some (.str p.shown) else none
theorem b_repr (hA : ∃ k, RG k X.A) : CallR X (.builtin "repr") (rN X.K (fn1 gRepr)) := by
  rintro pins s σ H xs us Q I r ⟨Z, m, as, d, rfl, si, ra, hf, q⟩
  obtain ⟨a, rfl, hf⟩ := fn1_inv hf
  obtain ⟨x, rfl, rx⟩ := ra.one_inv
  obtain ⟨p, h1, hf⟩ := Option.bind_eq_some_iff.mp hf
  obtain ⟨hz, rfl⟩ := ite_some hf
  obtain ⟨k, hr⟩ := hA
  unfold reprOk at hz
  simp only [Bool.and_eq_true, decide_eq_true_eq, Bool.not_eq_true'] at hz
  obtain ⟨⟨⟨⟨z1, z2⟩, z3⟩, z4⟩, z5⟩ := hz
  have dp := si.dp rx h1
  obtain ⟨u, rfl, ru⟩ := vals1 r
  have hsz : p.shown.length ≤ sizeLine := by
    have := PyData.shown_le 600 (by decide) p z3
    have h2 : (600 + 2) * p.weight ≤ 602 * 20000 := Nat.mul_le_mul (Nat.le_refl _) z4
    rw [sizeLine_eq]
    omega
  have hun := hr.room.un
  cases dp with
  | non =>
    cases ru
    exact PySem.P.repr_of_none ⟨.str "None", m.H, I.tok _, ⟨_, rfl⟩, q m _ rfl (.refl si) rfl⟩
  | bl b =>
    cases ru
    exact PySem.P.repr_of_bool ⟨.str _, m.H, I.tok _, ⟨_, rfl⟩, q m _ rfl (.refl si) rfl⟩
  | int i =>
    obtain ⟨t, rfl⟩ := ru
    exact PySem.P.repr_of_int (by simpa [PyData.showable] using z1) ⟨.str _, m.H, I.tok _, ⟨_, rfl⟩, q m _ rfl (.refl si) rfl⟩
  | str y =>
    obtain ⟨t, rfl⟩ := ru
    exact PySem.P.repr_of_str ⟨.str _, m.H, I.tok _, ⟨_, rfl⟩, q m _ rfl (.refl si) rfl⟩ hsz
  | lst h2 h3 =>
    cases ru
    obtain ⟨as, rd⟩ := Dp.reads I _ _ _ (Dp.lst h2 h3) rfl
    exact repr_of_reads' rd z1 (fun z => by rw [z5] at z; cases z) hr.gd (by omega) (fun _ _ e => e) (fun h' u tk hk => ⟨.str _, m.H, I.kept hk, ⟨_, rfl⟩, q m _ rfl (.refl si) rfl⟩) hsz
  | tup h2 h3 =>
    cases ru
    obtain ⟨as, rd⟩ := Dp.reads I _ _ _ (Dp.tup h2 h3) rfl
    exact repr_of_reads' rd z1 (fun z => by rw [z5] at z; cases z) hr.gd (by omega) (fun _ _ e => e) (fun h' u tk hk => ⟨.str _, m.H, I.kept hk, ⟨_, rfl⟩, q m _ rfl (.refl si) rfl⟩) hsz
end
/-! the law's end -/
section
open PySem.W (OpenLaw)
theorem law_run {P : Program} {w : World} {K : PySem.W.Frag} {mg mb : Str → Option Value} {k : Nat} {fa a : Addr} {fd : FuncData} {x : Str} {con : Con} {s₁ : Shared} {vs : List Value} {ns : List Int}
    (KX : K.In s₁.heap) (hns : s₁.heap.Ns mainGlobals mg) (hb : s₁.heap.Ns builtinsNs mb) (hbb : ∀ x : Str, x ≠ "__name__" → mb x = bootBuiltins x) (hlim : s₁.heap.NoLimit) (hg : s₁.gens = #[])
    (ha : s₁.heap.get? a = some { cls := .type "list", data := .seq vs.toArray }) (hi : IntsAre vs ns) (hl : ns.length ≤ sizeLine) (hr : Room k callerA)
    (F : ∀ base : Heap, K.In base → base.Ns mainGlobals mg → FnG P w K mg base k fa fd [x] con) (hbind : ∀ (s : Shared) (u : Value), BindsTo s fd ⟨[u], []⟩ [(x, u)])
    (hcon : con [.rol (ns.map D.int)] [] = some (.bl true, [])) :
    codeAny (model P w) callerA (.call (.ref fa) ⟨[.ref a], []⟩) (fun r s' => r = .ok (.ret (.bool true)) ∧ OldK s₁.heap s'.heap ∧ s'.os = s₁.os ∧ AllBare s'.gens) s₁ := by
  have main : ∀ H : Hp, (∀ b, H b ≠ none → b = a) → (∀ b u, H b = some u → ∃ o xs, u = .frz o (.lst xs)) → RoL ⟨K, []⟩ ⟨fun _ => 0, [], H⟩ a (ns.map V.int) → HOk P w H s₁.heap → (H a ≠ none → K.lookup a = none) →
      codeAny (model P w) callerA (.call (.ref fa) ⟨[.ref a], []⟩) (fun r s' => r = .ok (.ret (.bool true)) ∧ OldK s₁.heap s'.heap ∧ s'.os = s₁.os ∧ AllBare s'.gens) s₁ := by
    intro H onlyA onlyF ro hok noK
    have dictFree : ∀ {b : Addr} {o : Obj} {es : Array DictEntry} {ep : Nat}, s₁.heap.get? b = some o → o.data = .dict es ep → H b = none := fun {b o es ep} e d => by
      cases z : H b with
      | none => rfl
      | some u =>
        have hba : b = a := onlyA b (by rw [z]; exact fun h => nomatch h)
        subst hba
        rw [ha] at e
        cases e
        exact nomatch (show Data.seq vs.toArray _ = Data.dict es ep from d)
    have nsOf : ∀ {b : Addr} {mm : Str → Option Value}, s₁.heap.Ns b mm → (hidT s₁.heap H).Ns b mm := fun ⟨o, es, ep, e, d, r⟩ => ⟨o, es, ep, hidT_get e (dictFree e d), d, r⟩
    have kin : K.In (hidT s₁.heap H) := fun b o e => hidT_get (KX b o e) (by
      cases z : H b with
      | none => rfl
      | some u =>
        have hba : b = a := onlyA b (by rw [z]; exact fun h => nomatch h)
        subst hba
        rw [noK (by rw [z]; exact fun h => nomatch h)] at e
        cases e)
    have hmod : Mod K mg (hidT s₁.heap H) := ⟨kin, nsOf hns, ⟨mb, nsOf hb, hbb⟩, let ⟨mc, h1, h2⟩ := hlim; ⟨mc, nsOf h1, h2⟩⟩
    have e0 : Env0 P w K mg (hidT s₁.heap H) callerA [] s₁ H := ⟨rfl, hmod, fun b o e => of_hidT e, Nat.le_of_eq (hidT_size _ _), trivial, fun b hb => absurd (show b ∈ ([] : List Addr) from hb) (by simp), hok, .of_eq hg⟩
    have sim : Sim ⟨K, []⟩ ⟨fun _ => 0, [], H⟩ := ⟨fun i j h => absurd h (Nat.not_lt_zero _), fun i o h => (by cases h), fun z hz => (by cases hz)⟩
    have prom : spD K con [.ref a] H (fun v _ => v = .bl true) E0 := ⟨[], ⟨fun _ => 0, [], H⟩, [.rol (ns.map D.int)], .bl true, [], rfl, sim, ⟨.ref a, [], rfl, ⟨a, ns.map V.int, rfl, ro, RepL.ofInts ns⟩, rfl⟩, hcon, fun m' y _ _ ry => ry⟩
    refine codeAny_mono ((F _ kin (nsOf hns)).run callerA [] s₁ H ⟨[.ref a], []⟩ [.ref a] [.ref a] _ E0 ⟨hr, rfl⟩ e0 (hbind s₁ (.ref a)) (.cons rfl .nil) prom) fun r s' h => ?_
    cases r with
    | error e => exact h.elim
    | ok fl =>
      cases fl with
      | ret u =>
        obtain ⟨v, H', os, bare, un, hok', r', q⟩ := h
        have q' : v = .bl true := q
        subst q'
        obtain rfl : u = Value.bool true := r'
        refine ⟨rfl, OldK.of_keep fun b o e => ?_, os, bare⟩
        cases z : H b with
        | none => exact un.keep b o e z (by intro y; exact absurd (show b ∈ ([] : List Addr) from y) (by simp)) (by simp)
        | some u =>
          obtain ⟨ob, xs, rfl⟩ := onlyF b u z
          have z2 := un.frzs b ob _ z
          obtain ⟨e1, _⟩ := hok b _ z
          obtain ⟨e2, _⟩ := hok' b _ z2
          rw [e] at e1
          cases e1
          exact e2
      | _ => exact False.elim h
  have rv := vals_ints hi
  have lenV := hi.length
  cases hk : K.lookup a with
  | some o =>
    have e := KX a o hk
    rw [ha] at e
    cases e
    refine main (fun _ => none) (fun b z => absurd rfl z) (fun b u z => nomatch (show (none : Option HO) = some u from z)) (.inr ⟨_, vs.toArray, _, hk, rfl, rfl, rfl, by rw [List.size_toArray, lenV]; exact hl, by simpa using rv⟩) (fun b u z => nomatch (show (none : Option HO) = some u from z)) fun z => absurd rfl z
  | none =>
    refine main (fun b => if b = a then some (.frz { cls := .type "list", data := .seq vs.toArray } (.lst (ns.map V.int))) else none) (fun b z => ?_) (fun b u z => ?_) (.inl ⟨_, if_pos rfl⟩) (fun b u z => ?_) fun _ => hk
    · by_cases hb : b = a
      · exact hb
      · exact absurd (if_neg hb) z
    · by_cases hb : b = a
      · have z' := (if_pos hb).symm.trans z
        cases z'
        exact ⟨_, _, rfl⟩
      · have z' := (if_neg hb).symm.trans z
        cases z'
    · by_cases hb : b = a
      · have z' := (if_pos hb).symm.trans z
        cases z'
        subst hb
        exact ⟨ha, by rw [List.length_map]; exact hl, vs, _, rv, ha⟩
      · have z' := (if_neg hb).symm.trans z
        cases z'
theorem law_end {l : PySem.W.OpenLaw} {n k : Nat} {q : Program} {loose : List Str} {XP : (Str → Option Value) → Heap → Prop} {YP : World → Heap → Prop} {d : DefRec} {x : Str} {con : Con}
    (hn : l.most = some n) (hn2 : n ≤ sizeLine) (hdf : d.params.defaults = []) (hr : Room k callerA)
    (F : ∀ (w : World) (mg : Str → Option Value) (fa : Addr) (h : Heap), YP w h → h.Ns mainGlobals mg → mg d.name = some (.ref fa) →
      ∃ (K : PySem.W.Frag) (fd : FuncData), K.In h ∧ (∀ (s : Shared) (u : Value), BindsTo s fd ⟨[u], []⟩ [(x, u)]) ∧
        ∀ base : Heap, K.In base → base.Ns mainGlobals mg → FnG l.prog w K mg base k fa fd [x] con)
    (hcon : ∀ ns : List Int, ns.length ≤ n → con [.rol (ns.map D.int)] [] = some (.bl true, [])) :
    PySem.W.WalkO q loose XP YP l.row.toRowW d [] (fun f vs => PySem.call f vs) := by
  refine Att.attach_call hn hdf fun w s₀ s₁ mg mb fa o pm cd doc a vs ns G Y ho hd hcd hmg hobj hints hlen hg => ?_
  obtain ⟨K, fd, KX, hb, hF⟩ := F w mg fa _ Y G.T.g hmg
  exact law_run KX G.T.g G.T.b G.T.builtins G.T.nolimit hg hobj hints (Nat.le_trans hlen hn2) hr hF hb (hcon ns hlen)
end
end Pv
set_option Elab.async false
set_option linter.all false
set_option maxRecDepth 100000
namespace Pv
open PySem PySem.Spec PyProof.Rows L2
/-! short forms that a program prints -/
def perm {α : Type} (ix : List Nat) (l : List α) : List α := ix.filterMap fun i => l[i]?
theorem perm_vals {zs : List V} {ws : List Value} (h : Vals zs ws) : ∀ ix : List Nat, Vals (perm ix zs) (perm ix ws)
  | [] => .nil
  | i :: ix => by
    unfold perm
    cases e : zs[i]? with
    | none => rw [List.filterMap_cons_none e, List.filterMap_cons_none (h.none_of e)]; exact perm_vals h ix
    | some z =>
      obtain ⟨u, h1, h2⟩ := h.get e
      rw [List.filterMap_cons_some e, List.filterMap_cons_some h1]
      exact .cons h2 (perm_vals h ix)
theorem perm_rep {c : C} {m : M} {ds : List D} {vs : List V} (h : RepL c m ds vs) : ∀ ix : List Nat, RepL c m (perm ix ds) (perm ix vs)
  | [] => rfl
  | i :: ix => by
    unfold perm
    cases e : ds[i]? with
    | none =>
      have e2 : vs[i]? = none := List.getElem?_eq_none (by rw [h.len]; exact List.getElem?_eq_none_iff.mp e)
      rw [List.filterMap_cons_none e, List.filterMap_cons_none e2]; exact perm_rep h ix
    | some z =>
      obtain ⟨u, h1, h2⟩ := h.get e
      rw [List.filterMap_cons_some e, List.filterMap_cons_some h1]
      exact ⟨u, _, rfl, h2, perm_rep h ix⟩
structure Cal (P : Program) (w : World) (K : PySem.W.Frag) (mg : Str → Option Value) (base : Heap) (k : Nat) (x : Str) (ps : List Str) (con : Con) : Prop where
  ex : ∃ (f : Addr) (fd : FuncData), mg x = some (.ref f) ∧ PySem.W.keepIn K (.ref f) = true ∧ Binds K fd ps [] ∧ FnG P w K mg base k f fd ps con
structure CalK (P : Program) (w : World) (K : PySem.W.Frag) (mg : Str → Option Value) (base : Heap) (k : Nat) (x : Str) (ps ks : List Str) (ix : List Nat) (con : Con) : Prop where
  ex : ∃ (f : Addr) (fd : FuncData), mg x = some (.ref f) ∧ PySem.W.keepIn K (.ref f) = true ∧ KBd K fd ps ks (perm ix) ∧ FnG P w K mg base k f fd ps con
section
variable {P : Program} {w : World} {K : PySem.W.Frag} {mg : Str → Option Value} {base : Heap} {k : Nat} {x qual : Str} {ps : List Str} {con : Con} {params : Arguments} {body : List Stmt} {scope : Scope} {f : Addr} {fd : FuncData}
theorem Cal.of (F : FunD K x qual params body scope [] [] f fd) (hm : mg x = some (.ref f)) (G : FnG P w K mg base k f fd ps con)
    (h : ∀ (kV doc pm : Value) (an : Option Addr) (cdv ct : Value) (us : List Value), us.length = ps.length → bindArgs (PySem.W.fnOf x qual params body scope .none kV doc pm an cdv ct) ⟨us, []⟩ = pure (ps.zip us)) : Cal P w K mg base k x ps con :=
  ⟨f, fd, hm, F.kp, F.bindsN h, G⟩
theorem CalK.of {ks : List Str} {ix : List Nat} (F : FunD K x qual params body scope [] [] f fd) (hm : mg x = some (.ref f)) (G : FnG P w K mg base k f fd ps con)
    (h : ∀ (kV doc pm : Value) (an : Option Addr) (cdv ct : Value) (ws : List Value), ws.length = ks.length → bindArgs (PySem.W.fnOf x qual params body scope .none kV doc pm an cdv ct) ⟨[], ks.zip ws⟩ = pure (ps.zip (perm ix ws))) : CalK P w K mg base k x ps ks ix con := by
  refine ⟨f, fd, hm, F.kp, ⟨fun s ws _ hl => ?_, fun r => perm_vals r ix, fun r => perm_rep r ix⟩, G⟩
  obtain ⟨oc, od, dV, kV, doc, pm, an, cdv, ct, osl, rfl, lk, hcd, hD, hK⟩ := F.ex
  rcases hD with ⟨_, rfl⟩ | ⟨e, _⟩
  · exact .of_eq (h kV doc pm an cdv ct ws hl)
  · exact absurd rfl e
theorem Cal.sub {con' : Con} (h : Cal P w K mg base k x ps con) (hs : ∀ ds S r, con' ds S = some r → con ds S = some r) : Cal P w K mg base k x ps con' := by
  obtain ⟨f, fd, h1, h2, h3, h4⟩ := h.ex
  exact ⟨f, fd, h1, h2, h3, h4.sub hs⟩
theorem CalK.sub {con' : Con} {ks : List Str} {ix : List Nat} (h : CalK P w K mg base k x ps ks ix con) (hs : ∀ ds S r, con' ds S = some r → con ds S = some r) : CalK P w K mg base k x ps ks ix con' := by
  obtain ⟨f, fd, h1, h2, h3, h4⟩ := h.ex
  exact ⟨f, fd, h1, h2, h3, h4.sub hs⟩
end
section
variable {X : Cx} {a b c : Expr} {es : List Expr} {ga gk : AX} {fa fb fc : EX} {pos p : Pos} {k : Nat} {ps : List Str} {con : Con} {x : Str}
theorem ej_own (C : Cal X.prog X.w X.K X.mg X.base k x ps con) (hr : RG k X.A) (hg : Gl X x) (ha : AJ X (a :: es) ga) (hdb : (x == ("__debug__" : Str)) = false := by decide) (he : starEach (a :: es) X.env = (false, eval a X.env) :: starEach es X.env := by rfl) (hpl : (backTo pos (starEach es X.env)).any (·.1) = false := by rfl) :
    EJ X (.Call (.Name x p) (a :: es) [] pos) (eCall con ga) := by
  obtain ⟨f, fd, h1, h2, h3, h4⟩ := C.ex
  exact ej_call h4 hr hg h1 h2 h3 ha hdb he hpl
theorem ej_own0 (C : Cal X.prog X.w X.K X.mg X.base k x ps con) (hr : RG k X.A) (hg : Gl X x) (hdb : (x == ("__debug__" : Str)) = false := by decide) : EJ X (.Call (.Name x p) [] [] pos) (eCall con aNil) := by
  obtain ⟨f, fd, h1, h2, h3, h4⟩ := C.ex
  exact ej_call0 h4 hr hg h1 h2 h3 hdb
theorem ej_ownK {ks : List Str} {ix : List Nat} {kws : List Keyword} (C : CalK X.prog X.w X.K X.mg X.base k x ps ks ix con) (hr : RG k X.A) (hg : Gl X x) (hkw : KJ X kws gk) (hls : ∀ e S v, gk e S = some v → v.1.length = kws.length) (hlen : kws.length = ks.length := by rfl)
    (hall : (backToKw pos (keywordEach kws X.env)).all (·.1.isSome) = true := by rfl) (hks : (backToKw pos (keywordEach kws X.env)).filterMap (·.1) = ks := by rfl) (hdb : (x == ("__debug__" : Str)) = false := by decide)
    (hpl : ((backTo pos (starEach [] X.env)).any (·.1) || (backToKw pos (keywordEach kws X.env)).any (·.1.isNone)) = false := by rfl) : EJ X (.Call (.Name x p) [] kws pos) (eCallK con (perm ix) gk) := by
  obtain ⟨f, fd, h1, h2, h3, h4⟩ := C.ex
  exact ej_callK h4 hr hg h1 h2 h3 hkw hlen hall hks hdb hls hpl
theorem ls_nil : ∀ e S v, aNil e S = some v → v.1.length = 0 := fun e S v h => by cases h; rfl
theorem ls_cons {f : EX} {g : AX} {n : Nat} (h : ∀ e S v, g e S = some v → v.1.length = n) : ∀ e S v, aCons f g e S = some v → v.1.length = n + 1 := fun e S v hh => by
  obtain ⟨x, S1, r, h1, h2, h3⟩ := aCons_inv (v := v.1) (S' := v.2) hh
  rw [h3, List.length_cons, h e S1 (r, v.2) h2]
theorem ej_v (i : Nat) {x : Str} {pos : Pos} (hN : X.N[i]? = some x := by rfl) (hv : Vis X.env.scope x := by first | exact Or.inl rfl | exact Or.inr (Or.inl rfl) | exact Or.inr (Or.inr rfl)) (hd : (x == ("__debug__" : Str)) = false := by decide)
    (hcd : (x == ("__classdict__" : Str)) = false := by decide) : EJ X (.Name x pos) (eVar i) := ej_var hN hv hd hcd
/-- a module's constant -/
def GC (K : PySem.W.Frag) (mg : Str → Option Value) (x : Str) (d : D) : Prop := ∃ v u, mg x = some u ∧ RelV v u ∧ KR K d v
theorem ej_gc {d : D} (h : GC X.K X.mg x d) (hg : Gl X x) (hd : (x == ("__debug__" : Str)) = false := by decide) : EJ X (.Name x pos) (eC d) := by
  obtain ⟨v, u, h1, h2, h3⟩ := h
  exact ej_glob hg h1 h2 h3 hd
/-- a op1 b op2 c -/
def eChain (f g : F2) (a b c : EX) : EX := fun e S => (a e S).bind fun p => (b e p.2).bind fun q => (f q.2 p.1 q.1).bind fun t => match t with
  | .bl true => (c e q.2).bind fun r => (g r.2 q.1 r.1).map fun d => (d, r.2)
  | .bl false => some (.bl false, q.2)
  | _ => none
theorem te_chain {K : PySem.W.Frag} {f g : F2} {σ : L2.St} {H : Hp} {Q : VK} (h : tE K (eChain f g fa fb fc) σ H Q) : tChain (r2 K f) (r2 K g) (tE K fa) (tE K fb) (tE K fc) σ H Q := by
  obtain ⟨Z, m, env, v, S', e, s, er, hf, q⟩ := h
  unfold eChain at hf
  obtain ⟨⟨x, S1⟩, h1, h⟩ := Option.bind_eq_some_iff.mp hf
  obtain ⟨⟨y, S2⟩, h2, h⟩ := Option.bind_eq_some_iff.mp h
  obtain ⟨t, h3, h⟩ := Option.bind_eq_some_iff.mp h
  refine ⟨Z, m, env, x, S1, e, s, er, h1, fun m1 vx e1 t1 rx => ?_⟩
  refine ⟨Z, m1, env, y, S2, rfl, t1.si, er.tr s t1, by rw [e1]; exact h2, fun m2 vy e2 t2 ry => ?_⟩
  refine ⟨Z, m2, x, y, t, rfl, t2.si, t2.rep t1.si rx, ry, by rw [e2]; exact h3, fun m3 w e3 t3 rw => ?_⟩
  have t03 := (t1.trans s t2).trans s t3
  cases t <;> first | exact no2 h | skip
  rename_i b
  refine ⟨b, rw, ?_⟩
  cases b with
  | true =>
    obtain ⟨⟨z, S3⟩, h4, h⟩ := Option.bind_eq_some_iff.mp (show (fc env S2).bind _ = _ from h)
    obtain ⟨d, h5, h⟩ := Option.map_eq_some_iff.mp h
    simp only [Prod.mk.injEq] at h
    obtain ⟨rfl, rfl⟩ := h
    refine ⟨Z, m3, env, z, S3, rfl, t3.si, er.tr s t03, by rw [e3, e2]; exact h4, fun m4 vz e4 t4 rz => ?_⟩
    refine ⟨Z, m4, y, z, d, rfl, t4.si, t4.rep t3.si (t3.rep t2.si ry), rz, by rw [e4]; exact h5, fun m5 u e5 t5 ru => ?_⟩
    exact q m5 u (e5.trans e4) ((t03.trans s t4).trans s t5) ru
  | false =>
    cases h
    exact q m3 _ (e3.trans e2) t03 rfl
theorem ej_chain {op op' : CmpOp} {f g : F2} (ho : OpR X (compareOp op) (r2 X.K f)) (ho' : OpR X (compareOp op') (r2 X.K g)) (ha : EJ X a fa) (hb : EJ X b fb) (hc : EJ X c fc) (hm : lastMarks [op, op'] [b, c] = false := by with_unfolding_all rfl) :
    EJ X (.Compare a [op, op'] [b, c] pos) (eChain f g fa fb fc) := pe_wk (pe_chain ho ho' ha hb hc hm) fun _ _ _ h => te_chain h
theorem tj_chain {op op' : CmpOp} {f g : F2} (ho : OpR X (compareOp op) (r2 X.K f)) (ho' : OpR X (compareOp op') (r2 X.K g)) (ha : EJ X a fa) (hb : EJ X b fb) (hc : EJ X c fc) (hm : lastMarks [op, op'] [b, c] = false := by with_unfolding_all rfl) :
    TJ X (.Compare a [op, op'] [b, c] pos) (tOf (eChain f g fa fb fc)) := by
  refine pt_wk (pt_chain ho ho' ha hb hc hm) fun σ H Q ⟨Z, m, env, v, S', e, s, er, hf, q⟩ => ?_
  exact te_chain ⟨Z, m, env, .bl v, S', e, s, er, tOf_inv hf, fun m1 vx e1 t1 rx => ⟨v, rx, q m1 e1 t1⟩⟩
theorem wj_pt {e : Expr} {f : TX} (h : WJ X e f) : TJ X e f := h.pt
/-- room told by a call's room -/
theorem RG.u64 {k : Nat} {A : Around} (h : RG k A) : A.units + 64 < cLine := h.room.units
theorem RG.u65 {k : Nat} {A : Around} (h : RG k A) : A.units + 65 < cLine := by have := h.room.un; omega
end
/-! constants of the module, found in the written part -/
mutual
def dB (K : PySem.W.Frag) : D → Value → Bool
  | .non, u => decide (u = .none)
  | .bl b, u => decide (u = .bool b)
  | .int i, u => match u with
    | .int j _ => decide (j = i)
    | _ => false
  | .str x, u => match u with
    | .str y _ => decide (y = x)
    | _ => false
  | .tup ds, u => match u with
    | .ref a => match K.lookup a with
      | some ⟨.type c, _, .seq its _, _⟩ => decide (c = "tuple") && (decide (its.size ≤ sizeLine) && dBL K ds its.toList)
      | _ => false
    | _ => false
  | .rol ds, u => match u with
    | .ref a => match K.lookup a with
      | some ⟨.type c, none, .seq its _, _⟩ => decide (c = "list") && (decide (its.size ≤ sizeLine) && dBL K ds its.toList)
      | _ => false
    | _ => false
  | .lst _, _ => false
  | .dic _ _, _ => false
  | .ref _, _ => false
def dBL (K : PySem.W.Frag) : List D → List Value → Bool
  | [], us => us.isEmpty
  | d :: ds, us => match us with
    | u :: us => dB K d u && dBL K ds us
    | [] => false
end
mutual
theorem dB_ok {K : PySem.W.Frag} : ∀ (d : D) (u : Value), dB K d u = true → ∃ v, RelV v u ∧ KR K d v
  | .non, u, h => ⟨.non, (of_decide_eq_true h : u = .none), fun _ _ => rfl⟩
  | .bl b, u, h => ⟨.bl b, (of_decide_eq_true h : u = .bool b), fun _ _ => rfl⟩
  | .int i, u, h => by
    cases u <;> first | exact nomatch (show false = true from h) | skip
    rename_i j t
    have e : j = i := of_decide_eq_true h
    subst e
    exact ⟨.int j, ⟨t, rfl⟩, fun _ _ => rfl⟩
  | .str i, u, h => by
    cases u <;> first | exact nomatch (show false = true from h) | skip
    rename_i j t
    have e : j = i := of_decide_eq_true h
    subst e
    exact ⟨.str j, ⟨t, rfl⟩, fun _ _ => rfl⟩
  | .tup ds, u, h => by
    cases u <;> first | exact nomatch (show false = true from h) | skip
    rename_i a
    simp only [dB] at h
    split at h
    · rename_i c dd its n sl q
      obtain ⟨h1, h2⟩ := Bool.and_eq_true_iff.mp h
      obtain ⟨h3, h4⟩ := Bool.and_eq_true_iff.mp h2
      obtain ⟨vs, r1, r2⟩ := dBL_ok ds its.toList h4
      exact ⟨.ref a, rfl, fun Z m => ⟨a, vs, rfl, .inr ⟨_, its, n, q, congrArg Value.type (of_decide_eq_true h1), rfl, of_decide_eq_true h3, r1⟩, r2 Z m⟩⟩
    · cases h
  | .rol ds, u, h => by
    cases u <;> first | exact nomatch (show false = true from h) | skip
    rename_i a
    simp only [dB] at h
    split at h
    · rename_i c its n sl q
      obtain ⟨h1, h2⟩ := Bool.and_eq_true_iff.mp h
      obtain ⟨h3, h4⟩ := Bool.and_eq_true_iff.mp h2
      obtain ⟨vs, r1, r2⟩ := dBL_ok ds its.toList h4
      exact ⟨.ref a, rfl, fun Z m => ⟨a, vs, rfl, .inr ⟨_, its, n, q, congrArg Value.type (of_decide_eq_true h1), rfl, rfl, of_decide_eq_true h3, r1⟩, r2 Z m⟩⟩
    · cases h
  | .lst _, _, h => nomatch (show false = true from h)
  | .dic _ _, _, h => nomatch (show false = true from h)
  | .ref _, _, h => nomatch (show false = true from h)
theorem dBL_ok {K : PySem.W.Frag} : ∀ (ds : List D) (us : List Value), dBL K ds us = true → ∃ vs, Vals vs us ∧ ∀ Z m, RepL ⟨K, Z⟩ m ds vs
  | [], us, h => by
    cases us with
    | nil => exact ⟨[], .nil, fun _ _ => rfl⟩
    | cons u us => exact nomatch (show false = true from h)
  | d :: ds, us, h => by
    cases us with
    | nil => exact nomatch (show false = true from h)
    | cons u us =>
      obtain ⟨h1, h2⟩ := Bool.and_eq_true_iff.mp (show (dB K d u && dBL K ds us) = true from h)
      obtain ⟨v, r1, k1⟩ := dB_ok d u h1
      obtain ⟨vs, r2, k2⟩ := dBL_ok ds us h2
      exact ⟨v :: vs, .cons r1 r2, fun Z m => ⟨v, vs, rfl, k1 Z m, k2 Z m⟩⟩
end
def gcB (K : PySem.W.Frag) (q : Str × D) : Bool := match PySem.W.nsIn K mainGlobals q.1 with
  | some (some u) => dB K q.2 u
  | _ => false
theorem gcB_ok {K : PySem.W.Frag} {h : Heap} {mg : Str → Option Value} (X : K.In h) (G : h.Ns mainGlobals mg) {x : Str} {d : D} (c : gcB K (x, d) = true) : GC K mg x d := by
  unfold gcB at c
  simp only at c
  split at c
  · rename_i u e
    obtain ⟨v, r, k⟩ := dB_ok d u c
    exact ⟨v, u, PySem.W.mg_of X G e, r, k⟩
  · cases c
/-! the head's facts: defs, names, constants -/
abbrev AlP : Type := He.AlD × Bool
def obsP (n : Nat) (fa : List He.Fa) (fn : List He.DefD) (cs : List (Str × D)) (g : Addr → Option Obj) : AlP := (He.obsDG n fa fn g, cs.all fun q => gcB (He.frG g (He.asD g n)) q)
structure SaysP (fa : List He.Fa) (fn : List He.DefD) (cs : List (Str × D)) (K : PySem.W.Frag) : Prop where
  d : He.SaysD fa fn K
  c : cs.all (fun q => gcB K q) = true
def hookP (n : Nat) (fa : List He.Fa) (fn : List He.DefD) (cs : List (Str × D)) : PySem.W.Hook where
  α := AlP
  obs := fun s => obsP n fa fn cs s.heap.get?
  val := fun _ => (He.valD fn, true)
  says := fun _ h => ∃ K : PySem.W.Frag, K.In h ∧ SaysP fa fn cs K
  of := fun _ _ e => ⟨_, He.frG_in, ⟨congrArg (fun z : AlP => z.1) e, congrArg (fun z : AlP => z.2) e⟩⟩
  keeps := fun _ _ _ ⟨K, hK, c⟩ k => ⟨K, PySem.W.Frag.In.keeps hK k, c⟩
theorem obsP_eq {n : Nat} {fa : List He.Fa} {fn : List He.DefD} {cs : List (Str × D)} {g : Addr → Option Obj} {s : Shared} (h : ∀ a, g a = s.heap.get? a) : obsP n fa fn cs g = (hookP n fa fn cs).obs s := by
  have e : g = s.heap.get? := funext h
  rw [e] <;> rfl
theorem SaysP.const {fa : List He.Fa} {fn : List He.DefD} {cs : List (Str × D)} {K : PySem.W.Frag} (s : SaysP fa fn cs K) {h : Heap} {mg : Str → Option Value} (X : K.In h) (G : h.Ns mainGlobals mg) (i : Nat) {x : Str} {d : D} (e : cs[i]? = some (x, d) := by rfl) : GC K mg x d :=
  gcB_ok X G (List.all_eq_true.mp s.c (x, d) (List.mem_of_getElem? e))
end Pv
set_option Elab.async false
set_option linter.all false
set_option maxRecDepth 100000
namespace PySem
open Sem (wp)
set_option maxHeartbeats 1000000 in
theorem pv_enum_new {v : Value} {o : Obj} {H : Heap → Prop} (B : Begins v o H) :
    Meets (Builtin.«enumerate.__new__» ⟨[.type "enumerate", v], []⟩) (fun _ R s => H s.heap ∧
      R (.ok (.ret (.ref (s.heap.push o).objs.size))) { s with heap := (s.heap.push o).push { cls := .type "enumerate", data := .fields #[.none, .bool false, .ref s.heap.objs.size, rawInt 0, .none, .none] } }) :=
  .of_wp fun prog w A R s h => by
    obtain ⟨hp, g, d, tk, os⟩ := s
    obtain ⟨h1, h⟩ := h
    have hsub := sub_enumerate
    have q1 : ∀ {A' : Around} {E : Value → Shared → Prop} {Q : Value → Shared → Prop}, Q (.ref hp.objs.size) ⟨hp.push o, g, d, tk, os⟩ → wpAny (model prog w) A' (pyIter v) Q E ⟨hp, g, d, tk, os⟩ := fun q => B.iter prog w _ _ ⟨hp, g, d, tk, os⟩ _ h1 q
    wp_walk using q1
    refine wpAny_stack_any fun st => wpAny_pure ?_
    split
    · rename_i c _ _ _ _ _
      cases (c == Value.type "enumerate") <;> (wp_walk using q1; exact ⟨_, rfl, h⟩)
    · wp_walk using q1
      exact ⟨_, rfl, h⟩
theorem pv_enum_call {prog : Program} {w : World} {A : Around} {E : Value → Shared → Prop} {s : Shared} {v : Value} {o : Obj} {H : Heap → Prop} {Q : Value → Shared → Prop} (B : Begins v o H) (h1 : H s.heap)
    (h : ∀ h', IsEnum h' (s.heap.objs.size + 1) s.heap.objs.size 0 .none → h'.get? s.heap.objs.size = some o → h'.objs.size = s.heap.objs.size + 2 → (∀ b o, s.heap.get? b = some o → h'.get? b = some o) → Q (.ref (s.heap.objs.size + 1)) { s with heap := h' }) :
    wpAny (model prog w) A (call (.type "enumerate") [v]) Q E s := by
  refine callType_new F.called_enumerate (by decide) (F.typeCall_enumerate_1 _) (F.newCall_enumerate_1 _) (fun obj => F.args_object_init_2 obj _) F.entry_enumerate_new (pv_enum_new B) ⟨h1, ?_⟩
  have hz : (s.heap.push o).objs.size = s.heap.objs.size + 1 := Heap.size_push ..
  show _ ∧ _
  rw [hz]
  have he : IsEnum ((s.heap.push o).push { cls := .type "enumerate", data := .fields #[.none, .bool false, .ref s.heap.objs.size, rawInt 0, .none, .none] }) (s.heap.objs.size + 1) s.heap.objs.size 0 .none := by
    have z := Heap.get?_push_size (s.heap.push o) (o := { cls := .type "enumerate", data := .fields #[.none, .bool false, .ref s.heap.objs.size, rawInt 0, .none, .none] }) rfl
    rw [hz] at z
    exact z
  exact ⟨⟨_, he, rfl⟩, h _ he (Heap.get?_push_of_some _ (Heap.get?_push_size _ B.free)) (by rw [Heap.size_push, hz]) fun b o x => Heap.get?_push_of_some _ (Heap.get?_push_of_some _ x)⟩
end PySem
namespace Pv
open PySem PySem.Spec PyProof.Rows L2
/-- enumerate of a tuple: each item in a new pair -/
def IteT (K : PySem.W.Frag) (a : Addr) : It :=
  ⟨fun i H => ∃ (xs : List V) (x : V), SqT K H a xs ∧ xs[i]? = some x, fun i H v H' => ∃ T x, v = .ref T ∧ H T = none ∧ H' = upd H T (.tup [.int (i : Nat), x]) ∧ ∀ xs, SqT K H a xs → xs[i]? = some x, fun i H => ∃ xs : List V, SqT K H a xs ∧ xs.length ≤ i⟩
theorem turn_enumT {P : Program} {w : World} {K : PySem.W.Frag} {elts : List Expr} {kk : Nat} {tpos : Pos} (a e it : Addr) :
    Turn P w K (.Tuple elts kk tpos) (IteT K a) [e, it] e (fun i h => (∃ old, IsEnum h e it ((i : Nat) : Int) old) ∧ h.IsTupleIter it a i ∧ e ≠ it) where
  mem := List.mem_cons_self ..
  obj := fun i h st b hb => by
    obtain ⟨⟨old, he⟩, ⟨o, ho, hc, hd⟩, _⟩ := st
    rcases List.mem_cons.mp hb with rfl | hb
    · exact ⟨_, he, fun v q => nomatch q⟩
    · rw [List.mem_singleton.mp hb]
      exact ⟨o, ho, fun v q => by rw [hd] at q; cases q⟩
  keep := fun i h h' st k => by
    obtain ⟨⟨old, he⟩, hi, hne⟩ := st
    exact ⟨⟨old, k e (List.mem_cons_self ..) _ he⟩, hi.at fun o q => k it (List.mem_cons_of_mem _ (List.mem_singleton.mpr rfl)) o q, hne⟩
  item := by
    intro X hP hw hK hc i pins s σ H E I hf st hg
    subst hP hw hK
    obtain ⟨⟨old, he⟩, hit, hne⟩ := st
    obtain ⟨xs, x, hq, hx⟩ := hg
    obtain ⟨its, rv, p, hz⟩ := I.tuple hq
    obtain ⟨u, hu, ru⟩ := rv.get hx
    have hel : e < s.heap.objs.size := Heap.lt_size he
    have hil : it < s.heap.objs.size := by obtain ⟨_, q, _⟩ := hit; exact Heap.lt_size q
    have hal : a ≠ it := by
      obtain ⟨o1, q1, c1, _⟩ := p
      obtain ⟨o2, q2, c2, _⟩ := hit
      intro z
      subst z
      rw [q1] at q2
      cases q2
      rw [c1] at c2
      exact absurd c2 (by decide)
    have hae : a ≠ e := by
      obtain ⟨o1, q1, c1, _⟩ := p
      intro z
      subst z
      have he' : s.heap.get? a = some _ := he
      rw [q1] at he'
      cases he'
      exact absurd (show Value.type "enumerate" = Value.type "tuple" from c1) (by decide)
    have D := Draws.tuple (prog := X.prog) (w := X.w) (A := X.A.in1) (I.ok.hd hc) it a hal its.toArray
    have hi : i < its.toArray.size := by
      rw [List.size_toArray]
      rcases Nat.lt_or_ge i its.length with z | z
      · exact z
      · rw [List.getElem?_eq_none z] at hu; cases hu
    refine wpAny_pyNext_enum_itemD D he ⟨hit, p⟩ hi hne (fun z => ?_) fun y h' tk hP ho hst hT hsz hk => ?_
    · rcases List.mem_cons.mp z with z | z
      · exact hne z
      · exact hae (List.mem_singleton.mp z).symm
    · have hy : y = u := by
        have hP : its.toArray[i]? = some y := hP
        rw [List.getElem?_toArray, hu] at hP
        exact (Option.some.inj hP).symm
      subst hy
      refine ⟨_, rfl, wpAny_letOwnedTupleGo_enum (s := { s with heap := h', toks := tk + 1 }) ho fun h'' he' sb => ?_⟩
      have hT2 : h''.get? s.heap.objs.size = some { cls := .type "tuple", data := .seq #[.int i tk, y] } := (sb.2 _ (Nat.ne_of_gt hel)).trans hT
      have new : ObjOk X.prog X.w (upd H s.heap.objs.size (.tup [.int (i : Nat), x])) h'' s.heap.objs.size (.tup [.int (i : Nat), x]) := ⟨by show 2 ≤ sizeLine; decide, [.int i tk, y], .cons ⟨_, rfl⟩ (.cons ru .nil), ⟨_, hT2, rfl, _, rfl⟩⟩
      have I1 : Inv X pins σ (upd H s.heap.objs.size (.tup [.int (i : Nat), x])) { s with heap := h'', toks := tk + 1 } :=
        I.turnedNew (ch := [e, it]) (fun b ob hb q => (sb.2 b (fun z => hb (by simp [z]))).trans (hk b ob (fun z => hb (by simp [z])) (fun z => hb (by simp [z])) q)) hf (Nat.le_refl _) new
      refine ⟨.ref s.heap.objs.size, _, I1, rfl, ⟨_, x, rfl, I.hok.fresh (Nat.le_refl _), rfl, fun ys hy => by rw [I.tuple_inj hy hq]; exact hx⟩, ⟨⟨y, ?_⟩, hst.1.at fun o q => (sb.2 it (Ne.symm hne)).trans q, hne⟩, fun b hb => ?_⟩
      · have e1 : ((i + 1 : Nat) : Int) = (i : Int) + 1 := by omega
        rw [e1]
        exact he'
      · have hb' : b < s.heap.objs.size := by
          rcases List.mem_cons.mp hb with rfl | hb
          · exact hel
          · rw [List.mem_singleton.mp hb]; exact hil
        rw [upd_ne (Nat.ne_of_lt hb')]
        exact (hf b hb).1
  done := by
    intro X hP hw hK hc i pins s σ H E I hf st hg
    subst hP hw hK
    obtain ⟨⟨old, he⟩, hit, hne⟩ := st
    obtain ⟨xs, hq, hx⟩ := hg
    obtain ⟨its, rv, p, hz⟩ := I.tuple hq
    obtain ⟨f0, f1, f2, f3, f4, f5⟩ := hf it (by simp)
    have hl := rv.length
    have hT : s.TypeIs (.ref e) "enumerate" := ⟨_, he, rfl⟩
    unfold pyNext
    refine wpAny_bind (wpAny_attempt (wpAny_callSpecial?_slot (name := Str.ofString "__next__") hT F.slot_enumerate_next (wpAny_call_entry F.slot_enumerate_next hT F.entry_enumerate_next ?_ (F.args_enumerate_next_1 _))))
    show wpAny _ _ (field (.ref e) 2 >>= _) _ _ _
    refine wpAny_bind (wpAny_field he rfl (x := .ref it) rfl ?_)
    refine wpAny_bind (wpAny_nextOf_tuple_end (I.ok.hd hc) hit p (by rw [List.getElem?_toArray]; exact List.getElem?_eq_none (by omega)) fun h' x he' hx' => ?_)
    obtain ⟨o, ho, hc'⟩ := hx'
    refine wpAny_bind (wpAny_isInstance (T := "StopIteration") (b := true) ⟨o, ho, hc'⟩ isSubtype_stop ?_)
    exact wpAny_pure ⟨rfl, I.turned (t' := s.toks) (fun b o hb q => he' b o hb q) f0 f1 f3 f4 f5⟩
  self := fun A i s Q E st h => by
    obtain ⟨⟨_, he⟩, _⟩ := st
    exact wpAny_pyIter_enum he h
section
variable {X : Cx} {K : PySem.W.Frag} {m : M} {e : Expr} {f : EX} {pos p : Pos}
def iEnumTT (K : PySem.W.Frag) (ta : TA) : TI := fun σ H R => ta σ H fun vs H1 => ∃ a xs, vs = [.ref a] ∧ SqT K H1 a xs ∧ R (IteT K a) H1
theorem pi_enumT {ta : TA} {tpos : Pos} {elts : List Expr} {kk : Nat} (hg : Gl X "enumerate") (hm : X.mg "enumerate" = none) (ha : PA X [e] ta) (hs : starEach [e] X.env = [(false, eval e X.env)] := by rfl) :
    PI X (.Tuple elts kk tpos) (.Call (.Name "enumerate" p) [e] [] pos) (iEnumTT X.K ta) := by
  refine ⟨fun pins s σ H R I h => ?_⟩
  refine Call_ (ld_blt I hg hm boot_enumerate (PyProof.Rows.callWith_type1 (thn (ha.run pos pins s σ H _ I h) fun us s1 ⟨vs, H1, I1, r1, q1⟩ => ?_) hs rfl))
  obtain ⟨a, xs, ex, hq, q⟩ := q1
  subst ex
  rw [Vals.ref1 r1]
  obtain ⟨its, rv, p', hz⟩ := I1.tuple hq
  refine pv_enum_call (begins_tuple a its.toArray) (show s1.heap.IsTuple a its.toArray from p') fun h' he ho hsz hk => wpAny_pyIter_enum he ?_
  have I2 : Inv X pins σ H1 { s1 with heap := h' } := I1.kept (t' := s1.toks) hk
  refine ⟨s1.heap.objs.size + 1, [s1.heap.objs.size + 1, s1.heap.objs.size], _, _, H1, rfl, I2, turn_enumT a (s1.heap.objs.size + 1) s1.heap.objs.size, ⟨⟨.none, he⟩, ⟨_, ho, rfl, rfl⟩, Nat.succ_ne_self _⟩, fun b hb => ?_, q⟩
  have hle : s1.heap.objs.size ≤ b := by
    rcases List.mem_cons.mp hb with rfl | hb
    · exact Nat.le_succ _
    · rw [List.mem_singleton.mp hb]; exact Nat.le_refl _
  exact I1.fpOk hle (I1.hok.fresh hle)
def iEnum' (f : EX) : IX := fun e S => (f e S).bind fun p => match p.1 with
  | .tup ds => some (enumD ds, [], p.2)
  | d => (listOf p.2 d).map fun ds => (enumD ds, gsOf d, p.2)
theorem iEnum_inv {f : EX} {e : En} {S S' : Sto} {es : List D} {gs : List Nat} (h : iEnum' f e S = some (es, gs, S')) : ∃ d ds, f e S = some (d, S') ∧ es = enumD ds ∧ ((d = .tup ds ∧ gs = []) ∨ (listOf S' d = some ds ∧ gs = gsOf d)) := by
  unfold iEnum' at h
  obtain ⟨⟨d, S1⟩, h1, h⟩ := Option.bind_eq_some_iff.mp h
  have gen : (listOf S1 d).map (fun ds => (enumD ds, gsOf d, S1)) = some (es, gs, S') → ∃ ds, S1 = S' ∧ es = enumD ds ∧ listOf S' d = some ds ∧ gs = gsOf d := fun z => by
    obtain ⟨ds, z1, z⟩ := Option.map_eq_some_iff.mp z
    simp only [Prod.mk.injEq] at z
    obtain ⟨rfl, rfl, rfl⟩ := z
    exact ⟨ds, rfl, rfl, z1, rfl⟩
  cases d with
  | tup ds => cases h; exact ⟨_, ds, h1, rfl, .inl ⟨rfl, rfl⟩⟩
  | _ =>
    obtain ⟨ds, rfl, h2, h3, h4⟩ := gen h
    exact ⟨_, ds, h1, h2, .inr ⟨h3, h4⟩⟩
theorem it_enumT {Z : List Addr} {a : Addr} {xs : List D} {us : List V} (s : Sim ⟨K, Z⟩ m) (q1 : SqT K m.H a us) (r1 : RepL ⟨K, Z⟩ m xs us) : ItOk K Z m (enumD xs) [] (IteT K a) := ⟨fun Z' m' hz hw x si gd i => by
  have q1 : SqT K m'.H a us := x.sqT s.bok q1
  have r1 : RepL ⟨K, Z'⟩ m' xs us := RepL.mono s.bok x xs us (RepL.widen hw xs us r1)
  refine ⟨fun hi => ⟨us, q1, by rw [r1.len, ← enumD_len (xs := xs)]; exact hi⟩, fun d hd => ?_⟩
  obtain ⟨x1, hx, rfl⟩ := enumD_get hd
  obtain ⟨v1, hv1, rv1⟩ := r1.get hx
  refine ⟨⟨us, v1, q1, hv1⟩, fun v H3 ⟨T, u1, eT, hT, eH, f1⟩ => ?_⟩
  subst eT eH
  have e1 := f1 us q1
  rw [hv1] at e1
  cases e1
  exact pair_new si hT (rfl : Rep ⟨K, Z'⟩ m' (.int (i : Nat)) (.int (i : Nat))) rv1⟩
theorem ij_enum {elts : List Expr} {kk : Nat} {tpos : Pos} (hg : Gl X "enumerate") (hm : X.mg "enumerate" = none) (h : EJ X e f) (hs : starEach [e] X.env = [(false, eval e X.env)] := by rfl) (hs' : starEach [e] X.env = (false, eval e X.env) :: starEach [] X.env := by rfl) :
    IJ X (.Tuple elts kk tpos) (.Call (.Name "enumerate" p) [e] [] pos) (iEnum' f) :=
  pi_wk (pi_or (pi_enum hg hm (aj_cons h aj_nil hs') hs) (pi_enumT hg hm (aj_cons h aj_nil hs') hs)) fun σ H R ⟨Z, m, env, es, gs, S', eH, s, er, hf, q⟩ => by
    obtain ⟨d, ds, h1, rfl, hd⟩ := iEnum_inv hf
    rcases hd with ⟨rfl, rfl⟩ | ⟨h2, rfl⟩
    · refine .inr ⟨Z, m, env, [.tup ds], S', eH, s, er, by unfold aCons; rw [h1]; rfl, fun m1 vx e1 t1 rx0 => ?_⟩
      obtain ⟨x, rfl, rx⟩ := rx0.one_inv
      obtain ⟨pa, us, rfl, q1, r1⟩ := rx
      exact ⟨pa, us, rfl, q1, q m1 _ e1 t1 (it_enumT t1.si q1 r1)⟩
    · refine .inl ⟨Z, m, env, [d], S', eH, s, er, by unfold aCons; rw [h1]; rfl, fun m1 vx e1 t1 rx0 => ?_⟩
      obtain ⟨x, rfl, rx⟩ := rx0.one_inv
      obtain ⟨pa, us, rfl, q1, r1⟩ := t1.si.list rx (by rw [e1]; exact h2)
      obtain ⟨_, ea, sa⟩ := t1.si.stays rx (by rw [e1]; exact h2)
      cases ea
      exact ⟨pa, us, rfl, q1, q m1 _ e1 t1 (it_enumL sa)⟩
end
end Pv
set_option Elab.async false
set_option linter.all false
set_option maxRecDepth 100000
namespace Pv
open PySem PySem.Spec PyProof.Rows L2
/-! what a def's body comes to, as a contract -/
def KeptS (S S2 : Sto) (k : Nat) : Prop := ∀ (i : Nat) (ds : List D), i < k → S2[i]? = some (.lst ds) → S[i]? = some (.lst ds) ∨ belowL k ds = true
/-- what is handed back, where boxes from k on are given up -/
def handed (S2 : Sto) (k : Nat) (d : D) : Option D := if below k d = true then some d else match d with
  | .ref n => match S2[n]? with
    | some (.lst ds) => if belowL k ds = true ∧ k ≤ n then some (.lst ds) else none
    | _ => none
  | _ => none
open Classical in
noncomputable def den (n N keep : Nat) (b : SX) : Con := fun ds S => if ds.length = n then (b (sE N ds) S).bind fun o => match o with
  | .rt d S2 => if S.length + keep ≤ S2.length ∧ KeptS S S2 (S.length + keep) then (handed S2 (S.length + keep) d).map fun v => (v, S2.take (S.length + keep)) else none
  | .nx _ S2 => if S.length + keep ≤ S2.length ∧ KeptS S S2 (S.length + keep) then some (.non, S2.take (S.length + keep)) else none
  | _ => none else none
theorem handed_fz {S2 : Sto} {k : Nat} {d v : D} (h : handed S2 k d = some v) : Fz S2 k d v := by
  unfold handed at h
  split at h
  · rename_i hb
    cases h
    exact .inl ⟨rfl, hb⟩
  · rename_i hnb
    cases d <;> first | exact no2 h | skip
    rename_i n
    simp only at h
    split at h
    · rename_i ds hn
      split at h
      · rename_i hc
        cases h
        exact .inr ⟨n, ds, rfl, hc.2, hn, hc.1, rfl⟩
      · cases h
    · cases h
theorem kept_wf {S S2 : Sto} {k : Nat} (h : KeptS S S2 k) (hw : WfS S) (hk : S.length ≤ k) (h2 : k ≤ S2.length) : WfS (S2.take k) := fun i ds e => by
  have hl : (S2.take k).length = k := by rw [List.length_take]; omega
  rw [hl]
  have hi : i < k := by
    rcases Nat.lt_or_ge i k with z | z
    · exact z
    · rw [List.getElem?_eq_none (by rw [hl]; exact z)] at e; cases e
  rw [List.getElem?_take_of_lt hi] at e
  rcases h i ds hi e with z | z
  · have q := hw i ds z
    exact belowL_le hk ds q
  · exact z
where
  belowL_le {j k : Nat} (h : j ≤ k) : ∀ ds : List D, belowL j ds = true → belowL k ds = true
    | [], _ => rfl
    | d :: ds, b => by
      have b : below j d = true ∧ belowL j ds = true := by simpa [belowL] using b
      simp [belowL, below_le h d b.1, belowL_le h ds b.2]
  below_le {j k : Nat} (h : j ≤ k) : ∀ d : D, below j d = true → below k d = true
    | .non, _ => rfl
    | .bl _, _ => rfl
    | .int _, _ => rfl
    | .str _, _ => rfl
    | .tup ds, b => by simpa [below] using belowL_le h ds (by simpa [below] using b)
    | .lst ds, b => by simpa [below] using belowL_le h ds (by simpa [below] using b)
    | .rol ds, b => by simpa [below] using belowL_le h ds (by simpa [below] using b)
    | .dic _ ds, b => by simpa [below] using belowL_le h ds (by simpa [below] using b)
    | .ref n, b => by
      have b : n < j := by simpa [below] using b
      simp [below]; omega
theorem den_len {n N keep : Nat} {b : SX} : ∀ ds S r, den n N keep b ds S = some r → ds.length = n := fun ds S r h => by
  unfold den at h
  split at h
  · assumption
  · cases h
theorem den_real {n N keep : Nat} {b : SX} : ∀ ds S v S', WfS S → belowL S.length ds = true → den n N keep b ds S = some (v, S') → ∃ o, b (sE N ds) S = some o ∧ Fin o v S' ∧ WfS S' ∧ S.length ≤ S'.length := fun ds S v S' hw hb h => by
  unfold den at h
  split at h
  · obtain ⟨o, ho, h⟩ := Option.bind_eq_some_iff.mp h
    refine ⟨o, ho, ?_⟩
    have fin : ∀ {S2 : Sto}, S.length + keep ≤ S2.length ∧ KeptS S S2 (S.length + keep) → (∃ t, S2.take (S.length + keep) ++ t = S2) ∧ WfS (S2.take (S.length + keep)) ∧ S.length ≤ (S2.take (S.length + keep)).length ∧ (S2.take (S.length + keep)).length = S.length + keep := fun {S2} z =>
      ⟨⟨S2.drop (S.length + keep), List.take_append_drop _ _⟩, kept_wf z.2 hw (Nat.le_add_right _ _) z.1, by rw [List.length_take]; omega, by rw [List.length_take]; omega⟩
    cases o with
    | rt d S2 =>
      simp only at h
      split at h
      · rename_i z
        obtain ⟨v', h1, h2⟩ := Option.map_eq_some_iff.mp h
        simp only [Prod.mk.injEq] at h2
        obtain ⟨rfl, rfl⟩ := h2
        obtain ⟨f1, f2, f3, f4⟩ := fin z
        refine ⟨⟨f1, ?_⟩, f2, f3⟩
        rw [f4]
        exact handed_fz h1
      · cases h
    | nx e S2 =>
      simp only at h
      split at h
      · rename_i z
        cases h
        obtain ⟨f1, f2, f3, f4⟩ := fin z
        exact ⟨⟨f1, rfl⟩, f2, f3⟩
      · cases h
    | bk e S2 => cases h
    | ct e S2 => cases h
  · cases h
/-! reasoning over terms: what must hold so that they come to something -/
def EV (f : EX) (e : En) (S : Sto) (Q : D → Sto → Prop) : Prop := ∃ v S', f e S = some (v, S') ∧ Q v S'
def TV (f : TX) (e : En) (S : Sto) (Q : Bool → Sto → Prop) : Prop := ∃ v S', f e S = some (v, S') ∧ Q v S'
def AV (f : AX) (e : En) (S : Sto) (Q : List D → Sto → Prop) : Prop := ∃ v S', f e S = some (v, S') ∧ Q v S'
def OV (f : OX) (e : En) (S : Sto) (Q : Option Int → Sto → Prop) : Prop := ∃ v S', f e S = some (v, S') ∧ Q v S'
def GV (g : GX) (d : D) (e : En) (S : Sto) (Q : En → Sto → Prop) : Prop := ∃ e' S', g d e S = some (e', S') ∧ Q e' S'
def GsV (g : GXs) (d : List D) (e : En) (S : Sto) (Q : En → Sto → Prop) : Prop := ∃ e' S', g d e S = some (e', S') ∧ Q e' S'
def IV (f : IX) (e : En) (S : Sto) (Q : List D → List Nat → Sto → Prop) : Prop := ∃ ds gs S', f e S = some (ds, gs, S') ∧ Q ds gs S'
def SV (b : SX) (e : En) (S : Sto) (Q : Out → Prop) : Prop := ∃ o, b e S = some o ∧ Q o
def CV (c : Con) (ds : List D) (S : Sto) (Q : D → Sto → Prop) : Prop := ∃ v S', c ds S = some (v, S') ∧ Q v S'
def BV (x : Option D) (Q : D → Prop) : Prop := ∃ d, x = some d ∧ Q d
def LBV (x : Option (List D)) (Q : List D → Prop) : Prop := ∃ d, x = some d ∧ Q d
theorem bind2 {α β γ : Type} {x : Option (α × β)} {f : α × β → Option γ} {P : γ → Prop} : (∃ r, x.bind f = some r ∧ P r) ↔ ∃ a b, x = some (a, b) ∧ ∃ r, f (a, b) = some r ∧ P r := by
  constructor
  · rintro ⟨r, h, p⟩
    obtain ⟨⟨a, b⟩, h1, h2⟩ := Option.bind_eq_some_iff.mp h
    exact ⟨a, b, h1, r, h2, p⟩
  · rintro ⟨a, b, h1, r, h2, p⟩
    exact ⟨r, by rw [h1]; exact h2, p⟩
theorem pairQ {α β : Type} {x : Option (α × β)} {Q : α → β → Prop} : (∃ a b, x = some (a, b) ∧ Q a b) ↔ ∃ r, x = some r ∧ Q r.1 r.2 := ⟨fun ⟨a, b, h, q⟩ => ⟨(a, b), h, q⟩, fun ⟨r, h, q⟩ => ⟨r.1, r.2, h, q⟩⟩
section
variable {e : En} {S : Sto} {Q : D → Sto → Prop} {QB : Bool → Sto → Prop} {QL : List D → Sto → Prop} {QO : Out → Prop} {QE : En → Sto → Prop} {QI : List D → List Nat → Sto → Prop}
theorem EV_var {i : Nat} : EV (eVar i) e S Q ↔ ∃ d, e[i]? = some (some d) ∧ Q d S := by
  constructor
  · rintro ⟨v, S', h, q⟩
    obtain ⟨h1, rfl⟩ := eVar_inv h
    exact ⟨v, h1, q⟩
  · rintro ⟨d, h, q⟩
    exact ⟨d, S, by unfold eVar; rw [h], q⟩
theorem EV_c {d : D} : EV (eC d) e S Q ↔ Q d S := ⟨fun ⟨v, S', h, q⟩ => by cases h; exact q, fun q => ⟨d, S, rfl, q⟩⟩
theorem EV_e2 {f : F2} {a b : EX} : EV (e2 f a b) e S Q ↔ EV a e S fun x S1 => EV b e S1 fun y S2 => BV (f S2 x y) fun d => Q d S2 := by
  constructor
  · rintro ⟨v, S', h, q⟩
    obtain ⟨x, S1, y, h1, h2, h3⟩ := e2_inv h
    exact ⟨x, S1, h1, y, S', h2, v, h3, q⟩
  · rintro ⟨x, S1, h1, y, S2, h2, d, h3, q⟩
    exact ⟨d, S2, by unfold e2; rw [h1]; show (b e S1).bind _ = _; rw [h2]; show (f S2 x y).map _ = _; rw [h3]; rfl, q⟩
theorem EV_e1 {f : F1} {a : EX} : EV (e1 f a) e S Q ↔ EV a e S fun x S1 => BV (f S1 x) fun d => Q d S1 := by
  constructor
  · rintro ⟨v, S', h, q⟩
    obtain ⟨x, h1, h3⟩ := e1_inv h
    exact ⟨x, S', h1, v, h3, q⟩
  · rintro ⟨x, S1, h1, d, h3, q⟩
    exact ⟨d, S1, by unfold e1; rw [h1]; show (f S1 x).map _ = _; rw [h3]; rfl, q⟩
theorem TV_of {f : EX} : TV (tOf f) e S QB ↔ EV f e S fun x S1 => ∃ b, x = .bl b ∧ QB b S1 := by
  constructor
  · rintro ⟨v, S', h, q⟩
    exact ⟨.bl v, S', tOf_inv h, v, rfl, q⟩
  · rintro ⟨x, S1, h1, b, rfl, q⟩
    exact ⟨b, S1, by unfold tOf; rw [h1]; rfl, q⟩
theorem TV_and {f g : TX} : TV (tAnd' f g) e S QB ↔ TV f e S fun b S1 => if b = true then TV g e S1 QB else QB false S1 := by
  unfold TV tAnd'
  constructor
  · rintro ⟨v, S', h, q⟩
    obtain ⟨⟨b, S1⟩, h1, h2⟩ := Option.bind_eq_some_iff.mp h
    refine ⟨b, S1, h1, ?_⟩
    cases b with
    | true => exact ⟨v, S', h2, q⟩
    | false => cases h2; exact q
  · rintro ⟨b, S1, h1, h2⟩
    rw [h1]
    cases b with
    | true => exact h2
    | false => exact ⟨false, S1, rfl, h2⟩
theorem TV_or {f g : TX} : TV (tOr' f g) e S QB ↔ TV f e S fun b S1 => if b = true then QB true S1 else TV g e S1 QB := by
  unfold TV tOr'
  constructor
  · rintro ⟨v, S', h, q⟩
    obtain ⟨⟨b, S1⟩, h1, h2⟩ := Option.bind_eq_some_iff.mp h
    refine ⟨b, S1, h1, ?_⟩
    cases b with
    | false => exact ⟨v, S', h2, q⟩
    | true => cases h2; exact q
  · rintro ⟨b, S1, h1, h2⟩
    rw [h1]
    cases b with
    | false => exact h2
    | true => exact ⟨true, S1, rfl, h2⟩
theorem TV_not {f : TX} : TV (tNot' f) e S QB ↔ TV f e S fun b S1 => QB (!b) S1 := by
  unfold TV tNot'
  constructor
  · rintro ⟨v, S', h, q⟩
    obtain ⟨⟨b, S1⟩, h1, h2⟩ := Option.map_eq_some_iff.mp h
    cases h2
    exact ⟨b, _, h1, q⟩
  · rintro ⟨b, S1, h1, q⟩
    exact ⟨!b, S1, by rw [h1]; rfl, q⟩
theorem TV_yes : TV tYes' e S QB ↔ QB true S := ⟨fun ⟨v, S', h, q⟩ => by cases h; exact q, fun q => ⟨true, S, rfl, q⟩⟩
theorem EV_and {f g : EX} : EV (eAnd f g) e S Q ↔ EV f e S fun x S1 => ∃ b, x = .bl b ∧ if b = true then EV g e S1 Q else Q (.bl false) S1 := by
  unfold EV eAnd
  constructor
  · rintro ⟨v, S', h, q⟩
    obtain ⟨⟨x, S1⟩, h1, h2⟩ := Option.bind_eq_some_iff.mp h
    refine ⟨x, S1, h1, ?_⟩
    cases x <;> first | exact no2 h2 | skip
    rename_i b
    refine ⟨b, rfl, ?_⟩
    cases b with
    | true => exact ⟨v, S', h2, q⟩
    | false => cases h2; exact q
  · rintro ⟨x, S1, h1, b, rfl, h2⟩
    rw [h1]
    cases b with
    | true => exact h2
    | false => exact ⟨_, S1, rfl, h2⟩
theorem EV_or {f g : EX} : EV (eOr f g) e S Q ↔ EV f e S fun x S1 => ∃ b, x = .bl b ∧ if b = true then Q (.bl true) S1 else EV g e S1 Q := by
  unfold EV eOr
  constructor
  · rintro ⟨v, S', h, q⟩
    obtain ⟨⟨x, S1⟩, h1, h2⟩ := Option.bind_eq_some_iff.mp h
    refine ⟨x, S1, h1, ?_⟩
    cases x <;> first | exact no2 h2 | skip
    rename_i b
    refine ⟨b, rfl, ?_⟩
    cases b with
    | false => exact ⟨v, S', h2, q⟩
    | true => cases h2; exact q
  · rintro ⟨x, S1, h1, b, rfl, h2⟩
    rw [h1]
    cases b with
    | false => exact h2
    | true => exact ⟨_, S1, rfl, h2⟩
theorem EV_if {t : TX} {f g : EX} : EV (eIf t f g) e S Q ↔ TV t e S fun b S1 => if b = true then EV f e S1 Q else EV g e S1 Q := by
  unfold EV TV eIf
  constructor
  · rintro ⟨v, S', h, q⟩
    obtain ⟨⟨b, S1⟩, h1, h2⟩ := Option.bind_eq_some_iff.mp h
    refine ⟨b, S1, h1, ?_⟩
    cases b with
    | true => exact ⟨v, S', h2, q⟩
    | false => exact ⟨v, S', h2, q⟩
  · rintro ⟨b, S1, h1, h2⟩
    rw [h1]
    cases b with
    | true => exact h2
    | false => exact h2
theorem AV_nil : AV aNil e S QL ↔ QL [] S := ⟨fun ⟨v, S', h, q⟩ => by cases h; exact q, fun q => ⟨[], S, rfl, q⟩⟩
theorem AV_cons {f : EX} {g : AX} : AV (aCons f g) e S QL ↔ EV f e S fun x S1 => AV g e S1 fun r S2 => QL (x :: r) S2 := by
  constructor
  · rintro ⟨v, S', h, q⟩
    obtain ⟨x, S1, r, h1, h2, rfl⟩ := aCons_inv h
    exact ⟨x, S1, h1, r, S', h2, q⟩
  · rintro ⟨x, S1, h1, r, S2, h2, q⟩
    exact ⟨x :: r, S2, by unfold aCons; rw [h1]; show (g e S1).map _ = _; rw [h2]; rfl, q⟩
theorem EV_tup {g : AX} : EV (eTup g) e S Q ↔ AV g e S fun ds S1 => szOk ds.length = true ∧ Q (.tup ds) S1 := by
  unfold EV AV eTup
  constructor
  · rintro ⟨v, S', h, q⟩
    obtain ⟨⟨ds, S1⟩, h1, h2⟩ := Option.bind_eq_some_iff.mp h
    obtain ⟨hz, h3⟩ := ite_some h2
    cases h3
    exact ⟨ds, _, h1, hz, q⟩
  · rintro ⟨ds, S1, h1, hz, q⟩
    exact ⟨.tup ds, S1, by rw [h1]; show (if szOk ds.length = true then _ else _) = _; rw [if_pos hz], q⟩
theorem AV_disp {g : AX} : AV (lDisp g) e S QL ↔ AV g e S fun ds S1 => szOk ds.length = true ∧ QL ds S1 := by
  unfold AV lDisp
  constructor
  · rintro ⟨v, S', h, q⟩
    obtain ⟨⟨ds, S1⟩, h1, h2⟩ := Option.bind_eq_some_iff.mp h
    obtain ⟨hz, h3⟩ := ite_some h2
    cases h3
    exact ⟨_, _, h1, hz, q⟩
  · rintro ⟨ds, S1, h1, hz, q⟩
    exact ⟨ds, S1, by rw [h1]; show (if szOk ds.length = true then _ else _) = _; rw [if_pos hz], q⟩
theorem EV_fz {f : LX} : EV (eFz f) e S Q ↔ AV f e S fun ds S1 => Q (.lst ds) S1 := by
  unfold EV AV eFz
  constructor
  · rintro ⟨v, S', h, q⟩
    obtain ⟨⟨ds, S1⟩, h1, h2⟩ := Option.map_eq_some_iff.mp h
    cases h2
    exact ⟨ds, _, h1, q⟩
  · rintro ⟨ds, S1, h1, q⟩
    exact ⟨.lst ds, S1, by rw [h1]; rfl, q⟩
theorem EV_bx {f : LX} : EV (eBx f) e S Q ↔ AV f e S fun ds S1 => Q (.ref S1.length) (S1 ++ [.lst ds]) := by
  unfold EV AV eBx
  constructor
  · rintro ⟨v, S', h, q⟩
    obtain ⟨⟨ds, S1⟩, h1, h2⟩ := Option.map_eq_some_iff.mp h
    cases h2
    exact ⟨ds, _, h1, q⟩
  · rintro ⟨ds, S1, h1, q⟩
    exact ⟨_, _, by rw [h1]; rfl, q⟩
theorem EV_cb {f : FN} {g : AX} : EV (eCB f g) e S Q ↔ AV g e S fun ds S1 => BV (f S1 ds) fun d => Q d S1 := by
  unfold EV AV eCB BV
  constructor
  · rintro ⟨v, S', h, q⟩
    obtain ⟨⟨ds, S1⟩, h1, h2⟩ := Option.bind_eq_some_iff.mp h
    obtain ⟨d, h3, h4⟩ := Option.map_eq_some_iff.mp h2
    cases h4
    exact ⟨ds, _, h1, _, h3, q⟩
  · rintro ⟨ds, S1, h1, d, h3, q⟩
    exact ⟨d, S1, by rw [h1]; show (f S1 ds).map _ = _; rw [h3]; rfl, q⟩
theorem AV_cb {f : FNL} {g : AX} : AV (lCB f g) e S QL ↔ AV g e S fun ds S1 => LBV (f S1 ds) fun d => QL d S1 := by
  unfold AV lCB LBV
  constructor
  · rintro ⟨v, S', h, q⟩
    obtain ⟨⟨ds, S1⟩, h1, h2⟩ := Option.bind_eq_some_iff.mp h
    obtain ⟨d, h3, h4⟩ := Option.map_eq_some_iff.mp h2
    cases h4
    exact ⟨ds, _, h1, _, h3, q⟩
  · rintro ⟨ds, S1, h1, d, h3, q⟩
    exact ⟨d, S1, by rw [h1]; show (f S1 ds).map _ = _; rw [h3]; rfl, q⟩
theorem AV_l2 {f : F2L} {a b : EX} : AV (l2 f a b) e S QL ↔ EV a e S fun x S1 => EV b e S1 fun y S2 => LBV (f S2 x y) fun d => QL d S2 := by
  unfold AV EV l2 LBV
  constructor
  · rintro ⟨v, S', h, q⟩
    obtain ⟨⟨x, S1⟩, h1, h⟩ := Option.bind_eq_some_iff.mp h
    obtain ⟨⟨y, S2⟩, h2, h⟩ := Option.bind_eq_some_iff.mp h
    obtain ⟨d, h3, h⟩ := Option.map_eq_some_iff.mp h
    cases h
    exact ⟨x, S1, h1, y, _, h2, _, h3, q⟩
  · rintro ⟨x, S1, h1, y, S2, h2, d, h3, q⟩
    exact ⟨d, S2, by rw [h1]; show (b e S1).bind _ = _; rw [h2]; show (f S2 x y).map _ = _; rw [h3]; rfl, q⟩
theorem OV_no {QP : Option Int → Sto → Prop} : OV oNo e S QP ↔ QP none S := ⟨fun ⟨v, S', h, q⟩ => by cases h; exact q, fun q => ⟨none, S, rfl, q⟩⟩
theorem OV_some {f : EX} {QP : Option Int → Sto → Prop} : OV (oSome f) e S QP ↔ EV f e S fun x S1 => ∃ i, x = .int i ∧ QP (some i) S1 := by
  unfold OV EV oSome
  constructor
  · rintro ⟨v, S', h, q⟩
    obtain ⟨⟨x, S1⟩, h1, h2⟩ := Option.bind_eq_some_iff.mp h
    cases x <;> first | exact no2 h2 | skip
    cases h2
    exact ⟨_, _, h1, _, rfl, q⟩
  · rintro ⟨x, S1, h1, i, rfl, q⟩
    exact ⟨some i, S1, by rw [h1]; rfl, q⟩
theorem EV_sl {f : FS} {a : EX} {lo hi : OX} : EV (eSl f a lo hi) e S Q ↔ EV a e S fun x S1 => OV lo e S1 fun l S2 => OV hi e S2 fun u S3 => BV (f S3 x l u) fun d => Q d S3 := by
  unfold EV OV eSl BV
  constructor
  · rintro ⟨v, S', h, q⟩
    obtain ⟨⟨x, S1⟩, h1, h⟩ := Option.bind_eq_some_iff.mp h
    obtain ⟨⟨y, S2⟩, h2, h⟩ := Option.bind_eq_some_iff.mp h
    obtain ⟨⟨z, S3⟩, h3, h⟩ := Option.bind_eq_some_iff.mp h
    obtain ⟨d, h4, h⟩ := Option.map_eq_some_iff.mp h
    cases h
    exact ⟨x, S1, h1, y, S2, h2, z, _, h3, _, h4, q⟩
  · rintro ⟨x, S1, h1, y, S2, h2, z, S3, h3, d, h4, q⟩
    exact ⟨d, S3, by rw [h1]; show (lo e S1).bind _ = _; rw [h2]; show (hi e S2).bind _ = _; rw [h3]; show (f S3 x y z).map _ = _; rw [h4]; rfl, q⟩
theorem AV_sl {f : FSL} {a : EX} {lo hi : OX} : AV (lSl f a lo hi) e S QL ↔ EV a e S fun x S1 => OV lo e S1 fun l S2 => OV hi e S2 fun u S3 => LBV (f S3 x l u) fun d => QL d S3 := by
  unfold AV EV OV lSl LBV
  constructor
  · rintro ⟨v, S', h, q⟩
    obtain ⟨⟨x, S1⟩, h1, h⟩ := Option.bind_eq_some_iff.mp h
    obtain ⟨⟨y, S2⟩, h2, h⟩ := Option.bind_eq_some_iff.mp h
    obtain ⟨⟨z, S3⟩, h3, h⟩ := Option.bind_eq_some_iff.mp h
    obtain ⟨d, h4, h⟩ := Option.map_eq_some_iff.mp h
    cases h
    exact ⟨x, S1, h1, y, S2, h2, z, _, h3, _, h4, q⟩
  · rintro ⟨x, S1, h1, y, S2, h2, z, S3, h3, d, h4, q⟩
    exact ⟨d, S3, by rw [h1]; show (lo e S1).bind _ = _; rw [h2]; show (hi e S2).bind _ = _; rw [h3]; show (f S3 x y z).map _ = _; rw [h4]; rfl, q⟩
theorem EV_call {c : Con} {g : AX} : EV (eCall c g) e S Q ↔ AV g e S fun ds S1 => CV c ds S1 Q := by
  unfold EV AV eCall CV
  constructor
  · rintro ⟨v, S', h, q⟩
    obtain ⟨⟨ds, S1⟩, h1, h2⟩ := Option.bind_eq_some_iff.mp h
    exact ⟨ds, S1, h1, v, S', h2, q⟩
  · rintro ⟨ds, S1, h1, v, S', h2, q⟩
    exact ⟨v, S', by rw [h1]; exact h2, q⟩
theorem EV_callK {c : Con} {p : List D → List D} {g : AX} : EV (eCallK c p g) e S Q ↔ AV g e S fun ds S1 => CV c (p ds) S1 Q := by
  unfold EV AV eCallK CV
  constructor
  · rintro ⟨v, S', h, q⟩
    obtain ⟨⟨ds, S1⟩, h1, h2⟩ := Option.bind_eq_some_iff.mp h
    exact ⟨ds, S1, h1, v, S', h2, q⟩
  · rintro ⟨ds, S1, h1, v, S', h2, q⟩
    exact ⟨v, S', by rw [h1]; exact h2, q⟩
theorem EV_mt {h : FM} {fo : EX} {ga : AX} : EV (eMt h fo ga) e S Q ↔ EV fo e S fun x S1 => AV ga e S1 fun args S2 => ∃ n ds v ds', x = .ref n ∧ boxAt S2 n = some ds ∧ h S2 ds args = some (v, ds') ∧ Q v (S2.set n (.lst ds')) := by
  constructor
  · rintro ⟨v, S', hh, q⟩
    obtain ⟨n, S1, args, S2, ds, ds', h1, h2, h3, h4, rfl⟩ := eMt_inv hh
    exact ⟨_, S1, h1, args, S2, h2, n, ds, v, ds', rfl, h3, h4, q⟩
  · rintro ⟨x, S1, h1, args, S2, h2, n, ds, v, ds', rfl, h3, h4, q⟩
    exact ⟨v, _, by unfold eMt; rw [h1]; show (ga e S1).bind _ = _; rw [h2]; show (boxAt S2 n).bind _ = _; rw [h3]; show (h S2 ds args).map _ = _; rw [h4]; rfl, q⟩
theorem EV_chain {f g : F2} {a b c : EX} : EV (eChain f g a b c) e S Q ↔ EV a e S fun x S1 => EV b e S1 fun y S2 => BV (f S2 x y) fun t => ∃ k, t = .bl k ∧ if k = true then EV c e S2 fun z S3 => BV (g S3 y z) fun d => Q d S3 else Q (.bl false) S2 := by
  unfold EV eChain BV
  constructor
  · rintro ⟨v, S', h, q⟩
    obtain ⟨⟨x, S1⟩, h1, h⟩ := Option.bind_eq_some_iff.mp h
    obtain ⟨⟨y, S2⟩, h2, h⟩ := Option.bind_eq_some_iff.mp h
    obtain ⟨t, h3, h⟩ := Option.bind_eq_some_iff.mp h
    refine ⟨x, S1, h1, y, S2, h2, t, h3, ?_⟩
    cases t <;> first | exact no2 h | skip
    rename_i k
    refine ⟨k, rfl, ?_⟩
    cases k with
    | true =>
      obtain ⟨⟨z, S3⟩, h4, h⟩ := Option.bind_eq_some_iff.mp (show (c e S2).bind _ = _ from h)
      obtain ⟨d, h5, h⟩ := Option.map_eq_some_iff.mp h
      cases h
      exact ⟨z, _, h4, _, h5, q⟩
    | false => cases h; exact q
  · rintro ⟨x, S1, h1, y, S2, h2, t, h3, k, rfl, h⟩
    rw [h1]
    show ∃ v S', (b e S1).bind _ = _ ∧ _
    rw [h2]
    show ∃ v S', (f S2 x y).bind _ = _ ∧ _
    rw [h3]
    cases k with
    | true =>
      obtain ⟨z, S3, h4, d, h5, q⟩ := h
      exact ⟨d, S3, by show (c e S2).bind _ = _; rw [h4]; show (g S3 y z).map _ = _; rw [h5]; rfl, q⟩
    | false => exact ⟨_, S2, rfl, h⟩
/-! targets -/
theorem GV_n {i : Nat} {d : D} : GV (gN i) d e S QE ↔ QE (e.set i (some d)) S := ⟨fun ⟨v, S', h, q⟩ => by cases h; exact q, fun q => ⟨_, S, rfl, q⟩⟩
theorem GV_t {n : Nat} {gs : GXs} {d : D} : GV (gT n gs) d e S QE ↔ ∃ ds, d = .tup ds ∧ ds.length = n ∧ GsV gs ds e S QE := by
  unfold GV GsV gT
  constructor
  · rintro ⟨v, S', h, q⟩
    cases d <;> first | exact no2 h | skip
    simp only at h
    split at h
    · exact ⟨_, rfl, by assumption, v, S', h, q⟩
    · cases h
  · rintro ⟨ds, rfl, hl, v, S', h, q⟩
    exact ⟨v, S', by simp only; rw [if_pos hl]; exact h, q⟩
theorem GsV_nil {ds : List D} : GsV gsNil ds e S QE ↔ ds = [] ∧ QE e S := by
  unfold GsV gsNil
  constructor
  · rintro ⟨v, S', h, q⟩
    cases ds with
    | nil => cases h; exact ⟨rfl, q⟩
    | cons d ds => cases h
  · rintro ⟨rfl, q⟩
    exact ⟨e, S, rfl, q⟩
theorem GsV_cons {g : GX} {gs : GXs} {ds : List D} : GsV (gsCons g gs) ds e S QE ↔ ∃ d r, ds = d :: r ∧ GV g d e S fun e1 S1 => GsV gs r e1 S1 QE := by
  unfold GsV GV gsCons
  constructor
  · rintro ⟨v, S', h, q⟩
    cases ds with
    | nil => cases h
    | cons d ds =>
      obtain ⟨⟨e1, S1⟩, h1, h2⟩ := Option.bind_eq_some_iff.mp (show (g d e S).bind _ = _ from h)
      exact ⟨d, ds, rfl, e1, S1, h1, v, S', h2, q⟩
  · rintro ⟨d, r, rfl, e1, S1, h1, v, S', h2, q⟩
    exact ⟨v, S', by show (g d e S).bind _ = _; rw [h1]; exact h2, q⟩
theorem GV_s {fo fi : EX} {d : D} : GV (gS fo fi) d e S QE ↔ EV fo e S fun x S1 => EV fi e S1 fun y S2 => ∃ n k ds j, x = .ref n ∧ y = .int k ∧ boxAt S2 n = some ds ∧ ixN ds.length k = some j ∧ QE e (S2.set n (.lst (ds.set j d))) := by
  unfold GV EV gS
  constructor
  · rintro ⟨v, S', h, q⟩
    obtain ⟨⟨x, S1⟩, h1, h⟩ := Option.bind_eq_some_iff.mp h
    obtain ⟨⟨y, S2⟩, h2, h⟩ := Option.bind_eq_some_iff.mp h
    refine ⟨x, S1, h1, y, S2, h2, ?_⟩
    cases x <;> cases y <;> first | exact no2 h | skip
    obtain ⟨ds, h3, h⟩ := Option.bind_eq_some_iff.mp (show (boxAt S2 _).bind _ = _ from h)
    obtain ⟨j, h4, h⟩ := Option.map_eq_some_iff.mp h
    cases h
    exact ⟨_, _, ds, j, rfl, rfl, h3, h4, q⟩
  · rintro ⟨x, S1, h1, y, S2, h2, n, k, ds, j, rfl, rfl, h3, h4, q⟩
    exact ⟨e, _, by rw [h1]; show (fi e S1).bind _ = _; rw [h2]; show (boxAt S2 n).bind _ = _; rw [h3]; show (ixN ds.length k).map _ = _; rw [h4]; rfl, q⟩
/-! statements -/
def then_ (Q : Out → Prop) (k : En → Sto → Prop) : Out → Prop
  | .nx e S => k e S
  | .rt d S => Q (.rt d S)
  | .bk e S => Q (.bk e S)
  | .ct e S => Q (.ct e S)
theorem SV_seq {f g : SX} : SV (sSeq f g) e S QO ↔ SV f e S (then_ QO fun e1 S1 => SV g e1 S1 QO) := by
  unfold SV sSeq
  constructor
  · rintro ⟨o, h, q⟩
    obtain ⟨o1, h1, h2⟩ := Option.bind_eq_some_iff.mp h
    refine ⟨o1, h1, ?_⟩
    cases o1 with
    | nx e1 S1 => exact ⟨o, h2, q⟩
    | _ => cases h2; exact q
  · rintro ⟨o1, h1, h2⟩
    rw [h1]
    cases o1 with
    | nx e1 S1 => exact h2
    | _ => exact ⟨_, rfl, h2⟩
theorem SV_nil : SV sNil e S QO ↔ QO (.nx e S) := ⟨fun ⟨v, h, q⟩ => by cases h; exact q, fun q => ⟨_, rfl, q⟩⟩
theorem SV_break : SV sBreak e S QO ↔ QO (.bk e S) := ⟨fun ⟨v, h, q⟩ => by cases h; exact q, fun q => ⟨_, rfl, q⟩⟩
theorem SV_expr {f : EX} : SV (sExpr f) e S QO ↔ EV f e S fun _ S1 => QO (.nx e S1) := by
  unfold SV EV sExpr
  constructor
  · rintro ⟨o, h, q⟩
    obtain ⟨⟨x, S1⟩, h1, h2⟩ := Option.map_eq_some_iff.mp h
    cases h2
    exact ⟨x, S1, h1, q⟩
  · rintro ⟨x, S1, h1, q⟩
    exact ⟨_, by rw [h1]; rfl, q⟩
theorem SV_ret {f : EX} : SV (sRet f) e S QO ↔ EV f e S fun x S1 => QO (.rt x S1) := by
  unfold SV EV sRet
  constructor
  · rintro ⟨o, h, q⟩
    obtain ⟨⟨x, S1⟩, h1, h2⟩ := Option.map_eq_some_iff.mp h
    cases h2
    exact ⟨x, S1, h1, q⟩
  · rintro ⟨x, S1, h1, q⟩
    exact ⟨_, by rw [h1]; rfl, q⟩
theorem SV_if {t : TX} {f g : SX} : SV (sIf t f g) e S QO ↔ TV t e S fun b S1 => if b = true then SV f e S1 QO else SV g e S1 QO := by
  unfold SV TV sIf
  constructor
  · rintro ⟨o, h, q⟩
    obtain ⟨⟨b, S1⟩, h1, h2⟩ := Option.bind_eq_some_iff.mp h
    refine ⟨b, S1, h1, ?_⟩
    cases b <;> exact ⟨o, h2, q⟩
  · rintro ⟨b, S1, h1, h2⟩
    rw [h1]
    cases b <;> exact h2
theorem SV_asg {f : EX} {g : GX} : SV (sAsg f g) e S QO ↔ EV f e S fun x S1 => GV g x e S1 fun e1 S2 => QO (.nx e1 S2) := by
  unfold SV EV GV sAsg
  constructor
  · rintro ⟨o, h, q⟩
    obtain ⟨⟨x, S1⟩, h1, h⟩ := Option.bind_eq_some_iff.mp h
    obtain ⟨⟨e1, S2⟩, h2, h⟩ := Option.map_eq_some_iff.mp h
    cases h
    exact ⟨x, S1, h1, e1, S2, h2, q⟩
  · rintro ⟨x, S1, h1, e1, S2, h2, q⟩
    exact ⟨_, by rw [h1]; show (g x e S1).map _ = _; rw [h2]; rfl, q⟩
theorem SV_par {i j : Nat} {g : AX} : SV (sPar i j g) e S QO ↔ AV g e S fun ds S1 => ∃ u v, ds = [u, v] ∧ QO (.nx ((e.set i (some u)).set j (some v)) S1) := by
  unfold SV AV sPar
  constructor
  · rintro ⟨o, h, q⟩
    obtain ⟨⟨ds, S1⟩, h1, h⟩ := Option.bind_eq_some_iff.mp h
    match ds, h with
    | [u, v], h => cases h; exact ⟨_, S1, h1, u, v, rfl, q⟩
  · rintro ⟨ds, S1, h1, u, v, rfl, q⟩
    exact ⟨_, by rw [h1]; rfl, q⟩
theorem SV_par3 {i j l : Nat} {g : AX} : SV (sPar3 i j l g) e S QO ↔ AV g e S fun ds S1 => ∃ u v w, ds = [u, v, w] ∧ QO (.nx (((e.set i (some u)).set j (some v)).set l (some w)) S1) := by
  unfold SV AV sPar3
  constructor
  · rintro ⟨o, h, q⟩
    obtain ⟨⟨ds, S1⟩, h1, h⟩ := Option.bind_eq_some_iff.mp h
    match ds, h with
    | [u, v, w], h => cases h; exact ⟨_, S1, h1, u, v, w, rfl, q⟩
  · rintro ⟨ds, S1, h1, u, v, w, rfl, q⟩
    exact ⟨_, by rw [h1]; rfl, q⟩
theorem SV_aug {i : Nat} {f : F2} {g : EX} : SV (sAug i f g) e S QO ↔ ∃ x, e[i]? = some (some x) ∧ EV g e S fun y S1 => BV (f S1 x y) fun d => QO (.nx (e.set i (some d)) S1) := by
  unfold SV EV sAug BV
  constructor
  · rintro ⟨o, h, q⟩
    split at h
    · rename_i x hx
      obtain ⟨⟨y, S1⟩, h1, h⟩ := Option.bind_eq_some_iff.mp h
      obtain ⟨d, h2, h⟩ := Option.map_eq_some_iff.mp h
      cases h
      exact ⟨x, hx, y, S1, h1, d, h2, q⟩
    · cases h
  · rintro ⟨x, hx, y, S1, h1, d, h2, q⟩
    exact ⟨_, by rw [hx]; show (g e S).bind _ = _; rw [h1]; show (f S1 x y).map _ = _; rw [h2]; rfl, q⟩
theorem SV_asgL {bx : Bool} {f : LX} {i : Nat} : SV (sAsgL bx f i) e S QO ↔ SV (sAsg (if bx = true then eBx f else eFz f) (gN i)) e S QO := Iff.rfl
theorem SV_for {it : IX} {g : GX} {b : SX} : SV (sFor it g b) e S QO ↔ IV it e S fun ds gs S1 => SV (forL g b gs S1 ds) e S1 QO := by
  unfold SV IV sFor
  constructor
  · rintro ⟨o, h, q⟩
    obtain ⟨⟨ds, gs, S1⟩, h1, h2⟩ := Option.bind_eq_some_iff.mp h
    exact ⟨ds, gs, S1, h1, o, h2, q⟩
  · rintro ⟨ds, gs, S1, h1, o, h2, q⟩
    exact ⟨o, by rw [h1]; exact h2, q⟩
theorem SV_for_nil {g : GX} {b : SX} {gs : List Nat} {S0 : Sto} : SV (forL g b gs S0 []) e S QO ↔ QO (.nx e S) := ⟨fun ⟨v, h, q⟩ => by cases h; exact q, fun q => ⟨_, rfl, q⟩⟩
/-- behind a turn -/
def turn_ (Q : Out → Prop) (gs : List Nat) (S0 : Sto) (k : En → Sto → Prop) : Out → Prop
  | .nx e S => (∀ n, n ∈ gs → S[n]? = S0[n]?) ∧ k e S
  | .ct e S => (∀ n, n ∈ gs → S[n]? = S0[n]?) ∧ k e S
  | .bk e S => Q (.nx e S)
  | .rt d S => Q (.rt d S)
open Classical in
theorem SV_for_cons {g : GX} {b : SX} {gs : List Nat} {S0 : Sto} {d : D} {ds : List D} : SV (forL g b gs S0 (d :: ds)) e S QO ↔ GV g d e S fun e1 S1 => SV b e1 S1 (turn_ QO gs S0 fun e2 S2 => SV (forL g b gs S0 ds) e2 S2 QO) := by
  unfold SV GV
  constructor
  · rintro ⟨o, h, q⟩
    obtain ⟨⟨e1, S1⟩, h1, h⟩ := Option.bind_eq_some_iff.mp (show (g d e S).bind _ = _ from h)
    obtain ⟨o1, h2, h⟩ := Option.bind_eq_some_iff.mp h
    refine ⟨e1, S1, h1, o1, h2, ?_⟩
    cases o1 with
    | nx e2 S2 => simp only at h; split at h; (rename_i hg; exact ⟨hg, o, h, q⟩); cases h
    | ct e2 S2 => simp only at h; split at h; (rename_i hg; exact ⟨hg, o, h, q⟩); cases h
    | bk e2 S2 => cases h; exact q
    | rt d2 S2 => cases h; exact q
  · rintro ⟨e1, S1, h1, o1, h2, h⟩
    show ∃ o, (g d e S).bind _ = _ ∧ _
    rw [h1]
    show ∃ o, (b e1 S1).bind _ = _ ∧ _
    rw [h2]
    cases o1 with
    | nx e2 S2 =>
      obtain ⟨hg, o, h, q⟩ := h
      exact ⟨o, (if_pos hg).trans h, q⟩
    | ct e2 S2 =>
      obtain ⟨hg, o, h, q⟩ := h
      exact ⟨o, (if_pos hg).trans h, q⟩
    | bk e2 S2 => exact ⟨_, rfl, h⟩
    | rt d2 S2 => exact ⟨_, rfl, h⟩
/-- while, by what holds between the turns and a number that falls -/
theorem SV_while {t : TX} {b : SX} (I : Nat → En → Sto → Prop) (n : Nat) (h0 : I n e S)
    (step : ∀ n e S, I n e S → TV t e S fun c S1 => if c = true then SV b e S1 (turn_ QO [] [] fun e2 S2 => ∃ k, k < n ∧ I k e2 S2) else QO (.nx e S1)) : SV (sWhile t b) e S QO := by
  have key : ∀ n e S, I n e S → ∃ o, whileN t b (n + 1) e S = some o ∧ QO o := by
    intro n
    induction n using Nat.strongRecOn with
    | _ n ih =>
      intro e S hI
      obtain ⟨c, S1, h1, h2⟩ := step n e S hI
      show ∃ o, (t e S).bind _ = _ ∧ _
      rw [h1]
      show ∃ o, (if c = true then _ else _) = _ ∧ _
      cases c with
      | false => exact ⟨_, rfl, h2⟩
      | true =>
        rw [if_pos rfl]
        obtain ⟨o1, h3, h4⟩ := (show SV b e S1 _ from h2)
        rw [h3]
        cases o1 with
        | nx e2 S2 =>
          obtain ⟨_, k, hk, hI2⟩ := h4
          obtain ⟨o, h5, q⟩ := ih k hk e2 S2 hI2
          exact ⟨o, whileN_le h5 (by omega), q⟩
        | ct e2 S2 =>
          obtain ⟨_, k, hk, hI2⟩ := h4
          obtain ⟨o, h5, q⟩ := ih k hk e2 S2 hI2
          exact ⟨o, whileN_le h5 (by omega), q⟩
        | bk e2 S2 => exact ⟨_, rfl, h4⟩
        | rt d2 S2 => exact ⟨_, rfl, h4⟩
  obtain ⟨o, h, q⟩ := key n e S h0
  exact ⟨o, sWhile_of h, q⟩
/-! what is walked -/
theorem IV_seq {f : EX} : IV (iSeq f) e S QI ↔ EV f e S fun d S1 => ∃ ds, seqOf S1 d = some ds ∧ QI ds (gsOf d) S1 := by
  unfold IV
  constructor
  · rintro ⟨ds, gs, S', h, q⟩
    obtain ⟨d, h1, hd⟩ := iSeq_inv h
    refine ⟨d, S', h1, ds, ?_⟩
    rcases hd with ⟨rfl, rfl⟩ | ⟨h2, rfl⟩
    · exact ⟨rfl, q⟩
    · refine ⟨?_, q⟩
      cases d <;> first | exact no2 h2 | exact h2
  · rintro ⟨d, S1, h1, ds, h2, q⟩
    refine ⟨ds, gsOf d, S1, ?_, q⟩
    unfold iSeq
    rw [h1]
    cases d <;> first | exact no2 h2 | skip
    · cases h2; rfl
    · cases h2; rfl
    · cases h2; rfl
    · show (boxAt S1 _).map _ = _
      rw [show boxAt S1 _ = some ds from h2]
      rfl
theorem IV_rg1 {f : EX} : IV (iRg1 f) e S QI ↔ EV f e S fun d S1 => ∃ j, d = .int j ∧ rgOk j = true ∧ QI (rgD 0 j) [] S1 := by
  unfold IV EV iRg1
  constructor
  · rintro ⟨ds, gs, S', h, q⟩
    obtain ⟨⟨d, S1⟩, h1, h⟩ := Option.bind_eq_some_iff.mp h
    cases d <;> first | exact no2 h | skip
    obtain ⟨hz, h⟩ := ite_some h
    cases h
    exact ⟨_, S1, h1, _, rfl, hz, q⟩
  · rintro ⟨d, S1, h1, j, rfl, hz, q⟩
    exact ⟨_, _, _, by rw [h1]; show (if rgOk j = true then _ else _) = _; rw [if_pos hz], q⟩
theorem IV_rg2 {f g : EX} : IV (iRg2 f g) e S QI ↔ EV f e S fun d S1 => EV g e S1 fun d2 S2 => ∃ i j, d = .int i ∧ d2 = .int j ∧ (rgOk i && rgOk j) = true ∧ QI (rgD i j) [] S2 := by
  unfold IV EV iRg2
  constructor
  · rintro ⟨ds, gs, S', h, q⟩
    obtain ⟨⟨d, S1⟩, h1, h⟩ := Option.bind_eq_some_iff.mp h
    obtain ⟨⟨d2, S2⟩, h2, h⟩ := Option.bind_eq_some_iff.mp h
    cases d <;> cases d2 <;> first | exact no2 h | skip
    obtain ⟨hz, h⟩ := ite_some h
    cases h
    exact ⟨_, S1, h1, _, S2, h2, _, _, rfl, rfl, hz, q⟩
  · rintro ⟨d, S1, h1, d2, S2, h2, i, j, rfl, rfl, hz, q⟩
    exact ⟨_, _, _, by rw [h1]; show (g e S1).bind _ = _; rw [h2]; show (if (rgOk i && rgOk j) = true then _ else _) = _; rw [if_pos hz], q⟩
theorem IV_enum {f : EX} : IV (iEnum' f) e S QI ↔ EV f e S fun d S1 => ∃ ds, seqOf S1 d = some ds ∧ QI (enumD ds) (gsOf d) S1 := by
  unfold IV
  constructor
  · rintro ⟨es, gs, S', h, q⟩
    obtain ⟨d, ds, h1, rfl, hd⟩ := iEnum_inv h
    refine ⟨d, S', h1, ds, ?_⟩
    rcases hd with ⟨rfl, rfl⟩ | ⟨h2, rfl⟩
    · exact ⟨rfl, q⟩
    · refine ⟨?_, q⟩
      cases d <;> first | exact no2 h2 | exact h2
  · rintro ⟨d, S1, h1, ds, h2, q⟩
    refine ⟨enumD ds, gsOf d, S1, ?_, q⟩
    unfold iEnum'
    rw [h1]
    cases d <;> first | exact no2 h2 | skip
    · cases h2; rfl
    · cases h2; rfl
    · cases h2; rfl
    · show (boxAt S1 _).map _ = _
      rw [show boxAt S1 _ = some ds from h2]
      rfl
/-! comprehensions -/
theorem AV_lc {it : IX} {g : GX} {tt : TX} {te : EX} {vs : List Nat} : AV (lLc it g tt te vs) e S QL ↔ IV it e S fun ds gs S1 => ∃ out S2, lcL g tt te gs S1 (wipeE e vs) ds S1 = some (out, S2) ∧ szOk out.length = true ∧ QL out S2 := by
  unfold AV IV lLc
  constructor
  · rintro ⟨v, S', h, q⟩
    obtain ⟨⟨ds, gs, S1⟩, h1, h⟩ := Option.bind_eq_some_iff.mp h
    obtain ⟨⟨out, S2⟩, h2, h⟩ := Option.bind_eq_some_iff.mp h
    obtain ⟨hz, h⟩ := ite_some h
    cases h
    exact ⟨ds, gs, S1, h1, _, _, h2, hz, q⟩
  · rintro ⟨ds, gs, S1, h1, out, S2, h2, hz, q⟩
    exact ⟨out, S2, by rw [h1]; show (lcL g tt te gs S1 (wipeE e vs) ds S1).bind _ = _; rw [h2]; show (if szOk out.length = true then _ else _) = _; rw [if_pos hz], q⟩
def LV (g : GX) (tt : TX) (te : EX) (gs : List Nat) (S0 : Sto) (e0 : En) (ds : List D) (S : Sto) (Q : List D → Sto → Prop) : Prop := ∃ out S2, lcL g tt te gs S0 e0 ds S = some (out, S2) ∧ Q out S2
theorem LV_nil {g : GX} {tt : TX} {te : EX} {gs : List Nat} {S0 : Sto} {e0 : En} : LV g tt te gs S0 e0 [] S QL ↔ QL [] S := ⟨fun ⟨v, S', h, q⟩ => by cases h; exact q, fun q => ⟨[], S, rfl, q⟩⟩
open Classical in
theorem LV_cons {g : GX} {tt : TX} {te : EX} {gs : List Nat} {S0 : Sto} {e0 : En} {d : D} {ds : List D} : LV g tt te gs S0 e0 (d :: ds) S QL ↔ GV g d e0 S fun e1 S1 => TV tt e1 S1 fun b S2 => if b = true then EV te e1 S2 fun y S3 => (∀ n, n ∈ gs → S3[n]? = S0[n]?) ∧ LV g tt te gs S0 e0 ds S3 fun r S4 => QL (y :: r) S4
    else (∀ n, n ∈ gs → S2[n]? = S0[n]?) ∧ LV g tt te gs S0 e0 ds S2 QL := by
  unfold LV GV TV EV
  constructor
  · rintro ⟨out, S', h, q⟩
    obtain ⟨⟨e1, S1⟩, h1, h⟩ := Option.bind_eq_some_iff.mp (show (g d e0 S).bind _ = _ from h)
    obtain ⟨⟨b, S2⟩, h2, h⟩ := Option.bind_eq_some_iff.mp h
    refine ⟨e1, S1, h1, b, S2, h2, ?_⟩
    cases b with
    | true =>
      obtain ⟨⟨y, S3⟩, h3, h⟩ := Option.bind_eq_some_iff.mp (show (te e1 S2).bind _ = _ from h)
      simp only at h
      split at h
      · rename_i hg
        obtain ⟨⟨r, S4⟩, h4, h⟩ := Option.map_eq_some_iff.mp h
        cases h
        exact ⟨y, S3, h3, hg, r, _, h4, q⟩
      · cases h
    | false =>
      have h : (if (∀ n, n ∈ gs → S2[n]? = S0[n]?) then _ else _) = some (out, S') := h
      split at h
      · rename_i hg
        exact ⟨hg, out, S', h, q⟩
      · cases h
  · rintro ⟨e1, S1, h1, b, S2, h2, h⟩
    show ∃ out S', (g d e0 S).bind _ = _ ∧ _
    rw [h1]
    show ∃ out S', (tt e1 S1).bind _ = _ ∧ _
    rw [h2]
    cases b with
    | true =>
      obtain ⟨y, S3, h3, hg, r, S4, h4, q⟩ := h
      exact ⟨_, _, by show (te e1 S2).bind _ = _; rw [h3]; show (if _ then _ else _) = _; rw [if_pos hg]; show (lcL g tt te gs S0 e0 ds S3).map _ = _; rw [h4]; rfl, q⟩
    | false =>
      obtain ⟨hg, out, S', h, q⟩ := h
      exact ⟨out, S', by show (if _ then _ else _) = _; rw [if_pos hg]; exact h, q⟩
end
theorem EV.imp {f : EX} {e : En} {S : Sto} {Q R : D → Sto → Prop} (h : EV f e S Q) (k : ∀ d S1, Q d S1 → R d S1) : EV f e S R := by obtain ⟨v, S', h1, q⟩ := h; exact ⟨v, S', h1, k _ _ q⟩
theorem CV.imp {f : Con} {e : List D} {S : Sto} {Q R : D → Sto → Prop} (h : CV f e S Q) (k : ∀ d S1, Q d S1 → R d S1) : CV f e S R := by obtain ⟨v, S', h1, q⟩ := h; exact ⟨v, S', h1, k _ _ q⟩
theorem SV.imp {f : SX} {e : En} {S : Sto} {Q R : Out → Prop} (h : SV f e S Q) (k : ∀ o, Q o → R o) : SV f e S R := by obtain ⟨v, h1, q⟩ := h; exact ⟨v, h1, k _ q⟩
theorem LV.imp {g : GX} {tt : TX} {te : EX} {gs : List Nat} {S0 : Sto} {e0 : En} {ds : List D} {S : Sto} {Q R : List D → Sto → Prop} (h : LV g tt te gs S0 e0 ds S Q) (k : ∀ d S1, Q d S1 → R d S1) : LV g tt te gs S0 e0 ds S R := by obtain ⟨v, S', h1, q⟩ := h; exact ⟨v, S', h1, k _ _ q⟩
/-- a def's contract: from its body -/
def Rt (S : Sto) (keep : Nat) (Q : D → Sto → Prop) : Out → Prop
  | .rt d S2 => S.length + keep ≤ S2.length ∧ KeptS S S2 (S.length + keep) ∧ BV (handed S2 (S.length + keep) d) fun v => Q v (S2.take (S.length + keep))
  | .nx _ S2 => S.length + keep ≤ S2.length ∧ KeptS S S2 (S.length + keep) ∧ Q .non (S2.take (S.length + keep))
  | _ => False
open Classical in
theorem CV_den {n N keep : Nat} {b : SX} {ds : List D} {S : Sto} {Q : D → Sto → Prop} (hn : ds.length = n) (h : SV b (sE N ds) S (Rt S keep Q)) : CV (den n N keep b) ds S Q := by
  obtain ⟨o, h1, q⟩ := h
  unfold CV den
  rw [if_pos hn, h1]
  cases o with
  | rt d S2 =>
    obtain ⟨z1, z2, v, z3, z4⟩ := q
    refine ⟨v, _, ?_, z4⟩
    show (if _ then _ else _) = _
    rw [if_pos ⟨z1, z2⟩, z3]
    rfl
  | nx e S2 =>
    obtain ⟨z1, z2, z3⟩ := q
    refine ⟨.non, _, ?_, z3⟩
    show (if _ then _ else _) = _
    rw [if_pos ⟨z1, z2⟩]
  | bk e S2 => exact q.elim
  | ct e S2 => exact q.elim
end Pv
set_option Elab.async false
set_option linter.all false
set_option maxRecDepth 100000
namespace Pv
open PySem PySem.Spec PyProof.Rows L2
/-! what operations come to -/
section
variable {S : Sto} {Q : D → Prop} {R : D → Sto → Prop} {QL : List D → Prop}
theorem BV_some {d : D} : BV (some d) Q ↔ Q d := ⟨fun ⟨_, e, q⟩ => by cases e; exact q, fun q => ⟨d, rfl, q⟩⟩
theorem BV_ite {c : Prop} [Decidable c] {x : Option D} : BV (if c then x else none) Q ↔ c ∧ BV x Q := by
  constructor
  · rintro ⟨d, e, q⟩
    split at e
    · exact ⟨by assumption, d, e, q⟩
    · cases e
  · rintro ⟨h, d, e, q⟩
    exact ⟨d, by rw [if_pos h]; exact e, q⟩
theorem LBV_some {d : List D} : LBV (some d) QL ↔ QL d := ⟨fun ⟨_, e, q⟩ => by cases e; exact q, fun q => ⟨d, rfl, q⟩⟩
theorem LBV_ite {c : Prop} [Decidable c] {x : Option (List D)} : LBV (if c then x else none) QL ↔ c ∧ LBV x QL := by
  constructor
  · rintro ⟨d, e, q⟩
    split at e
    · exact ⟨by assumption, d, e, q⟩
    · cases e
  · rintro ⟨h, d, e, q⟩
    exact ⟨d, by rw [if_pos h]; exact e, q⟩
variable {a b : Int} {x y : D} {ds es : List D} {p q : Bool}
theorem r_add : fAdd S (.int a) (.int b) = some (.int (a + b)) := rfl
theorem r_addT : fAdd S (.tup ds) (.tup es) = if szOk (ds.length + es.length) = true then some (.tup (ds ++ es)) else none := rfl
theorem r_addS {u v : Str} : fAdd S (.str u) (.str v) = if szOk (u.length + v.length) = true then some (.str (u ++ v)) else none := rfl
theorem r_iadd : fIAdd S (.int a) (.int b) = some (.int (a + b)) := rfl
theorem r_sub : fSub S (.int a) (.int b) = some (.int (a - b)) := rfl
theorem r_mul : fMul S (.int a) (.int b) = if mulOk a b = true then some (.int (a * b)) else none := rfl
theorem r_mulT : fMul S (.tup ds) (.int b) = if repOk ds.length b = true then some (.tup (List.replicate b.toNat ds).flatten) else none := rfl
theorem r_div : fDiv S (.int a) (.int b) = if divOk b = true then some (.int (a.fdiv b)) else none := rfl
theorem r_mod : fMod S (.int a) (.int b) = if b ≠ 0 then some (.int (a.fmod b)) else none := rfl
theorem r_pow : fPow S (.int a) (.int b) = if powOk a b = true then some (.int (a ^ b.toNat)) else none := rfl
theorem r_shl : fShl S (.int a) (.int b) = if powOk a b = true then some (.int (a * 2 ^ b.toNat)) else none := rfl
theorem r_neg : fNeg S (.int a) = some (.int (-a)) := rfl
theorem r_lt : fLt S (.int a) (.int b) = some (.bl (decide (a < b))) := rfl
theorem r_le : fLe S (.int a) (.int b) = some (.bl (decide (a ≤ b))) := rfl
theorem r_gt : fGt S (.int a) (.int b) = some (.bl (decide (b < a))) := rfl
theorem r_ge : fGe S (.int a) (.int b) = some (.bl (decide (b ≤ a))) := rfl
theorem r_eq : fEq S (.int a) (.int b) = some (.bl (decide (a = b))) := rfl
theorem r_ne : fNe S (.int a) (.int b) = some (.bl (!decide (a = b))) := rfl
theorem r_eqS {u v : Str} : fEq S (.str u) (.str v) = some (.bl (decide (u = v))) := rfl
theorem r_neS {u v : Str} : fNe S (.str u) (.str v) = some (.bl (!decide (u = v))) := rfl
theorem r_abs : fn1 gAbs S [.int a] = some (.int (if a < 0 then -a else a)) := rfl
theorem r_max : fn2 gMax2 S [.int a, .int b] = some (.int (if b > a then b else a)) := rfl
theorem r_min : fn2 gMin2 S [.int a, .int b] = some (.int (if b < a then b else a)) := rfl
theorem r_intI : fn1 gInt S [.int a] = some (.int a) := rfl
theorem r_intB : fn1 gInt S [.bl p] = some (.int (if p then 1 else 0)) := rfl
theorem r_gabs : gAbs S (.int a) = some (.int (if a < 0 then -a else a)) := rfl
theorem r_gmax : gMax2 S (.int a) (.int b) = some (.int (if b > a then b else a)) := rfl
theorem r_gmin : gMin2 S (.int a) (.int b) = some (.int (if b < a then b else a)) := rfl
theorem r_gintI : gInt S (.int a) = some (.int a) := rfl
theorem r_gintB : gInt S (.bl p) = some (.int (if p then 1 else 0)) := rfl
theorem r_not : fNot S (.bl p) = some (.bl (!p)) := rfl
theorem r_fn1 {f : F1} : fn1 f S [x] = f S x := rfl
theorem r_fn2 {f : F2} : fn2 f S [x, y] = f S x y := rfl
theorem r_fnl1 {f : Sto → D → Option (List D)} : fnl1 f S [x] = f S x := rfl
theorem r_lenT : gLen S (.tup ds) = some (.int ds.length) := rfl
theorem r_lenL : gLen S (.lst ds) = some (.int ds.length) := rfl
theorem r_lenR : gLen S (.rol ds) = some (.int ds.length) := rfl
theorem r_lenS {u : Str} : gLen S (.str u) = if szOk u.length = true then some (.int u.length) else none := rfl
theorem r_lenX {n : Nat} : gLen S (.ref n) = (boxAt S n).map fun ds => .int ds.length := rfl
theorem r_tupT : gTuple S (.tup ds) = some (.tup ds) := rfl
theorem r_tupL : gTuple S (.lst ds) = some (.tup ds) := rfl
theorem r_tupR : gTuple S (.rol ds) = some (.tup ds) := rfl
theorem r_tupX {n : Nat} : gTuple S (.ref n) = (boxAt S n).map .tup := rfl
theorem r_listT : gList S (.tup ds) = some ds := rfl
theorem r_listL : gList S (.lst ds) = some ds := rfl
theorem r_listR : gList S (.rol ds) = some ds := rfl
theorem r_listX {n : Nat} : gList S (.ref n) = boxAt S n := rfl
theorem r_ixT : fIx S (.tup ds) (.int a) = atI ds a := rfl
theorem r_ixL : fIx S (.lst ds) (.int a) = atI ds a := rfl
theorem r_ixR : fIx S (.rol ds) (.int a) = atI ds a := rfl
theorem r_ixX {n : Nat} : fIx S (.ref n) (.int a) = (boxAt S n).bind fun ds => atI ds a := rfl
theorem r_seqT : seqOf S (.tup ds) = some ds := rfl
theorem r_seqL : seqOf S (.lst ds) = some ds := rfl
theorem r_seqR : seqOf S (.rol ds) = some ds := rfl
theorem r_seqX {n : Nat} : seqOf S (.ref n) = boxAt S n := rfl
theorem r_addLL : fAddL S (.lst ds) (.lst es) = if szOk (ds.length + es.length) = true then some (ds ++ es) else none := rfl
theorem r_mulLL : fMulL S (.lst ds) (.int b) = if (decide (0 ≤ b) && decide (b ≤ 100000) && szOk (ds.length * b.toNat)) = true then some (List.replicate b.toNat ds).flatten else none := rfl
theorem r_isTt : gIs "tuple" S (.tup ds) = some (.bl true) := by
  show (kitB "tuple" "tuple").map D.bl = _
  rw [show kitB "tuple" "tuple" = some true by decide +kernel]
  rfl
theorem r_isTi : gIs "tuple" S (.int a) = some (.bl false) := by
  show (kitB "int" "tuple").map D.bl = _
  rw [show kitB "int" "tuple" = some false by decide +kernel]
  rfl
theorem r_isTs {u : Str} : gIs "tuple" S (.str u) = some (.bl false) := by
  show (kitB "str" "tuple").map D.bl = _
  rw [show kitB "str" "tuple" = some false by decide +kernel]
  rfl
theorem r_gsT : gsOf (.tup ds) = [] := rfl
theorem r_gsL : gsOf (.lst ds) = [] := rfl
theorem r_gsR : gsOf (.rol ds) = [] := rfl
theorem r_gsX {n : Nat} : gsOf (.ref n) = [n] := rfl
theorem r_isN : fIs S x .non = some (.bl (isNon x)) := rfl
theorem r_isNN : fIsNot S x .non = some (.bl (!isNon x)) := rfl
theorem r_isB : fIs S (.bl p) (.bl q) = some (.bl (decide (p = q))) := rfl
theorem r_slT {lo hi : Option Int} : fSlT S (.tup ds) lo hi = some (.tup (cutD ds lo hi)) := rfl
theorem r_slL {lo hi : Option Int} : fSlL S (.lst ds) lo hi = some (cutD ds lo hi) := rfl
theorem r_slR {lo hi : Option Int} : fSlL S (.rol ds) lo hi = some (cutD ds lo hi) := rfl
theorem r_sumT {ns : List Int} : gSum S (.tup (ns.map D.int)) = some (.int ns.sum) := by show (intsOf _).map _ = _; rw [intsOf_map]; rfl
theorem r_sumL {ns : List Int} : gSum S (.lst (ns.map D.int)) = some (.int ns.sum) := by show (intsOf _).map _ = _; rw [intsOf_map]; rfl
theorem r_allL {ns : List Bool} : gAll S (.lst (ns.map D.bl)) = some (.bl (ns.all id)) := by show (boolsOf _).map _ = _; rw [boolsOf_map]; rfl
theorem r_anyL {ns : List Bool} : gAny S (.lst (ns.map D.bl)) = some (.bl (ns.any id)) := by show (boolsOf _).map _ = _; rw [boolsOf_map]; rfl
theorem at_0 {α : Type} {u : α} {l : List α} : atI (u :: l) 0 = some u := by
  unfold atI ixN
  rw [if_pos (by omega), if_pos (by simp only [List.length_cons]; omega)]; rfl
theorem at_1 {α : Type} {u v : α} {l : List α} : atI (u :: v :: l) 1 = some v := by
  unfold atI ixN
  rw [if_pos (by omega), if_pos (by simp only [List.length_cons]; omega)]; rfl
theorem at_2 {α : Type} {u v w : α} {l : List α} : atI (u :: v :: w :: l) 2 = some w := by
  unfold atI ixN
  rw [if_pos (by omega), if_pos (by simp only [List.length_cons]; omega)]; rfl
theorem at_3 {α : Type} {u v w z : α} {l : List α} : atI (u :: v :: w :: z :: l) 3 = some z := by
  unfold atI ixN
  rw [if_pos (by omega), if_pos (by simp only [List.length_cons]; omega)]; rfl
theorem ixN_in {n : Nat} {i : Int} (h0 : 0 ≤ i) (h1 : i < n) : ixN n i = some i.toNat := by unfold ixN; rw [if_pos h0, if_pos h1]
theorem at_in {α : Type} {l : List α} {i : Int} (h0 : 0 ≤ i) (h1 : i < l.length) : ∃ u, atI l i = some u ∧ u ∈ l ∧ l[i.toNat]? = some u := by
  have h2 : i.toNat < l.length := by omega
  refine ⟨l[i.toNat], ?_, List.getElem_mem h2, List.getElem?_eq_getElem h2⟩
  unfold atI
  rw [ixN_in h0 h1]
  exact List.getElem?_eq_getElem h2
theorem at_nat {α : Type} {l : List α} {i : Nat} : atI l (i : Int) = l[i]? := by
  unfold atI ixN
  rw [if_pos (by omega)]
  by_cases h : i < l.length
  · rw [if_pos (by omega)]; rfl
  · rw [if_neg (by omega)]; exact (List.getElem?_eq_none (by omega)).symm
theorem box_of {n : Nat} (h : S[n]? = some (.lst ds)) : boxAt S n = some ds := by unfold boxAt; rw [h]
theorem ex_tup2 {P : List D → Prop} : (∃ ds, D.tup [x, y] = .tup ds ∧ P ds) ↔ P [x, y] := ⟨fun ⟨_, e, q⟩ => by cases e; exact q, fun q => ⟨_, rfl, q⟩⟩
theorem ex_ref {n : Nat} {P : Nat → Prop} : (∃ k, D.ref n = .ref k ∧ P k) ↔ P n := ⟨fun ⟨_, e, q⟩ => by cases e; exact q, fun q => ⟨_, rfl, q⟩⟩
end
/-! bounds -/
theorem log2_lt {n k : Nat} (h : n < 2 ^ k) (hk : 0 < k) : n.log2 < k := by
  by_cases h0 : n = 0
  · subst h0; simpa using hk
  · exact (Nat.log2_lt h0).mpr h
/-- a number of less than 9000 bits -/
def sm (a : Int) : Prop := a.natAbs < 2 ^ 9000
theorem sm_mul {a b : Int} (h : sm a) (h2 : sm b) : mulOk a b = true := by
  have := log2_lt h (by decide)
  have := log2_lt h2 (by decide)
  unfold mulOk
  exact decide_eq_true (by omega)
theorem sm_div {a : Int} (h : sm a) (h2 : a ≠ 0) : divOk a = true := by
  have := log2_lt h (by decide)
  unfold divOk
  exact Bool.and_eq_true_iff.mpr ⟨decide_eq_true h2, decide_eq_true (by omega)⟩
/-- a number within a bound -/
theorem sm_le {a : Int} (k : Nat) (h : a.natAbs ≤ k) (hk : k < 2 ^ 9000 := by decide +kernel) : sm a := Nat.lt_of_le_of_lt h hk
/-! the hand: a box of three numbers -/
def hdO (a b c : Int) : Ob := .lst [.int a, .int b, .int c]
def HdOk (n : Nat) (o : Ob) : Prop := ∃ a b c : Int, o = hdO a b c ∧ 0 ≤ a ∧ a < 10 ^ 120 ∧ 0 ≤ b ∧ b < 10 ^ 30 ∧ 0 ≤ c ∧ c ≤ n
def HD (n : Nat) (S : Sto) (h : Nat) : Prop := ∃ o, S[h]? = some o ∧ HdOk n o
theorem HD.mono {n k : Nat} {S : Sto} {h : Nat} (H : HD n S h) (hk : n ≤ k) : HD k S h := by
  obtain ⟨o, h1, a, b, c, h2, h3, h4, h5, h6, h7, h8⟩ := H
  exact ⟨o, h1, a, b, c, h2, h3, h4, h5, h6, h7, by omega⟩
theorem HD.lt {n : Nat} {S : Sto} {h : Nat} (H : HD n S h) : h < S.length := by
  obtain ⟨o, h1, _⟩ := H
  exact (List.getElem?_eq_some_iff.mp h1).1
/-- nothing but box h is changed; boxes may come -/
structure Up (h : Nat) (S S2 : Sto) : Prop where
  len : S.length ≤ S2.length
  at_ : ∀ i, i < S.length → i ≠ h → S2[i]? = S[i]?
theorem Up.refl {h : Nat} {S : Sto} : Up h S S := ⟨Nat.le_refl _, fun _ _ _ => rfl⟩
theorem Up.trans {h : Nat} {S S2 S3 : Sto} (a : Up h S S2) (b : Up h S2 S3) : Up h S S3 := ⟨Nat.le_trans a.len b.len, fun i hi hn => (b.at_ i (Nat.lt_of_lt_of_le hi a.len) hn).trans (a.at_ i hi hn)⟩
theorem Up.set {h : Nat} {S : Sto} {o : Ob} : Up h S (S.set h o) := ⟨by rw [List.length_set]; exact Nat.le_refl _, fun i _ hn => List.getElem?_set_ne (Ne.symm hn)⟩
theorem Up.app {h : Nat} {S T : Sto} : Up h S (S ++ T) := ⟨by rw [List.length_append]; omega, fun i hi _ => List.getElem?_append_left hi⟩
theorem Up.setNew {h k : Nat} {S S2 : Sto} {o : Ob} (a : Up h S S2) (hk : S.length ≤ k) : Up h S (S2.set k o) := ⟨by rw [List.length_set]; exact a.len, fun i hi hn => (List.getElem?_set_ne (by omega)).trans (a.at_ i hi hn)⟩
theorem HD.setNe {n h k : Nat} {S : Sto} {o : Ob} (H : HD n S h) (hk : k ≠ h) : HD n (S.set k o) h := by
  obtain ⟨u, h1, h2⟩ := H
  exact ⟨u, (List.getElem?_set_ne hk).trans h1, h2⟩
theorem HD.app {n h : Nat} {S T : Sto} (H : HD n S h) : HD n (S ++ T) h := by
  have hl := H.lt
  obtain ⟨u, h1, h2⟩ := H
  exact ⟨u, (List.getElem?_append_left hl).trans h1, h2⟩
/-- the store behind a call that used the hand -/
structure St (h n : Nat) (S S2 : Sto) : Prop where
  up : Up h S S2
  eq : S2.length = S.length
  hd : HD n S2 h
theorem St.trans {h n k : Nat} {S S2 S3 : Sto} (a : St h n S S2) (b : St h k S2 S3) : St h k S S3 := ⟨a.up.trans b.up, b.eq.trans a.eq, b.hd⟩
theorem St.refl {h n : Nat} {S : Sto} (H : HD n S h) : St h n S S := ⟨.refl, rfl, H⟩
theorem St.mono {h n k : Nat} {S S2 : Sto} (a : St h n S S2) (hk : n ≤ k) : St h k S S2 := ⟨a.up, a.eq, a.hd.mono hk⟩
theorem Up.kept {h n : Nat} {S S2 : Sto} (a : Up h S S2) (H : HD n S2 h) : KeptS S S2 (S.length + 0) := fun i ds hi e => by
  by_cases hn : i = h
  · subst hn
    obtain ⟨o, h1, x, y, z, h2, _⟩ := H
    rw [h1, h2] at e
    cases e
    exact .inr rfl
  · exact .inl ((a.at_ i hi hn).symm.trans e)
theorem Up.cut {h n : Nat} {S S2 : Sto} (a : Up h S S2) (H : HD n S2 h) (hs : h < S.length) : St h n S (S2.take (S.length + 0)) := by
  have hl : (S2.take (S.length + 0)).length = S.length := by rw [List.length_take]; have := a.len; omega
  refine ⟨⟨by omega, fun i hi hn => ?_⟩, hl, ?_⟩
  · rw [List.getElem?_take_of_lt (by omega)]; exact a.at_ i hi hn
  · obtain ⟨o, h1, h2⟩ := H
    exact ⟨o, by rw [List.getElem?_take_of_lt (by omega)]; exact h1, h2⟩
/-! data without boxes -/
mutual
def bare : D → Bool
  | .ref _ => false
  | .tup xs => bareL xs
  | .lst xs => bareL xs
  | .rol xs => bareL xs
  | .dic _ xs => bareL xs
  | _ => true
def bareL : List D → Bool
  | [] => true
  | d :: ds => bare d && bareL ds
end
mutual
theorem bare_below {k : Nat} : ∀ d : D, bare d = true → below k d = true
  | .non, _ => rfl
  | .bl _, _ => rfl
  | .int _, _ => rfl
  | .str _, _ => rfl
  | .tup ds, b => by simpa [below] using bareL_below ds (by simpa [bare] using b)
  | .lst ds, b => by simpa [below] using bareL_below ds (by simpa [bare] using b)
  | .rol ds, b => by simpa [below] using bareL_below ds (by simpa [bare] using b)
  | .dic _ ds, b => by simpa [below] using bareL_below ds (by simpa [bare] using b)
  | .ref n, b => by simp [bare] at b
theorem bareL_below {k : Nat} : ∀ ds : List D, bareL ds = true → belowL k ds = true
  | [], _ => rfl
  | d :: ds, b => by
    have b : bare d = true ∧ bareL ds = true := by simpa [bareL] using b
    simp [belowL, bare_below d b.1, bareL_below ds b.2]
end
theorem bareL_iff : ∀ {ds : List D}, bareL ds = true ↔ ∀ d, d ∈ ds → bare d = true
  | [] => ⟨(fun _ d h => nomatch h), (fun _ => rfl)⟩
  | d :: ds => by simp [bareL, bareL_iff (ds := ds)]
theorem bareL_ints (ns : List Int) : bareL (ns.map D.int) = true := bareL_iff.mpr fun d h => by
  obtain ⟨n, _, rfl⟩ := List.mem_map.mp h
  rfl
theorem handed_bare {S2 : Sto} {k : Nat} {d : D} (h : bare d = true) : handed S2 k d = some d := by
  unfold handed
  rw [if_pos (bare_below d h)]
theorem handed_box {S2 : Sto} {k n : Nat} {ds : List D} (hn : k ≤ n) (hb : S2[n]? = some (.lst ds)) (h : bareL ds = true) : handed S2 k (.ref n) = some (.lst ds) := by
  unfold handed
  rw [if_neg (by simp [below]; omega)]
  simp only
  rw [hb]
  simp only
  rw [if_pos ⟨bareL_below ds h, hn⟩]
/-- a def that uses the hand: what it gives back is bare -/
def RtH (h n : Nat) (S : Sto) (Q : D → Sto → Prop) : Out → Prop
  | .rt d S2 => HD n S2 h ∧ Up h S S2 ∧ ((bare d = true ∧ ∀ S', St h n S S' → Q d S') ∨ ∃ m ds, d = .ref m ∧ S.length ≤ m ∧ S2[m]? = some (.lst ds) ∧ bareL ds = true ∧ ∀ S', St h n S S' → Q (.lst ds) S')
  | _ => False
theorem CV_hand {k N h n : Nat} {b : SX} {ds : List D} {S : Sto} {Q : D → Sto → Prop} (hs : h < S.length) (hn : ds.length = k) (H : SV b (sE N ds) S (RtH h n S Q)) : CV (den k N 0 b) ds S Q := by
  refine CV_den hn (H.imp fun o q => ?_)
  cases o with
  | rt d S2 =>
    obtain ⟨q1, q2, q3⟩ := q
    refine ⟨q2.len, q2.kept q1, ?_⟩
    rcases q3 with ⟨q3, q4⟩ | ⟨m, es, rfl, q3, q4, q5, q6⟩
    · exact ⟨d, handed_bare q3, q4 _ (q2.cut q1 hs)⟩
    · exact ⟨.lst es, handed_box q3 q4 q5, q6 _ (q2.cut q1 hs)⟩
  | nx e S2 => exact q.elim
  | bk e S2 => exact q.elim
  | ct e S2 => exact q.elim
/-- a def that leaves the boxes as they are -/
def RtP (S : Sto) (Q : D → Prop) : Out → Prop
  | .rt d S2 => (∃ T, S2 = S ++ T) ∧ ((bare d = true ∧ Q d) ∨ ∃ m ds, d = .ref m ∧ S.length ≤ m ∧ S2[m]? = some (.lst ds) ∧ bareL ds = true ∧ Q (.lst ds))
  | _ => False
theorem CV_plain {k N : Nat} {b : SX} {ds : List D} {S : Sto} {Q : D → Sto → Prop} (hn : ds.length = k) (H : SV b (sE N ds) S (RtP S fun d => Q d S)) : CV (den k N 0 b) ds S Q := by
  refine CV_den hn (H.imp fun o q => ?_)
  cases o with
  | rt d S2 =>
    obtain ⟨⟨T, rfl⟩, q3⟩ := q
    have e : (S ++ T).take (S.length + 0) = S := by simp
    refine ⟨by simp, fun i es hi z => .inl ?_, ?_⟩
    · rw [List.getElem?_append_left (by omega)] at z; exact z
    · rcases q3 with ⟨q3, q4⟩ | ⟨m, es, rfl, q3, q4, q5, q6⟩
      · exact ⟨d, handed_bare q3, by rw [e]; exact q4⟩
      · exact ⟨.lst es, handed_box q3 q4 q5, by rw [e]; exact q6⟩
  | nx e S2 => exact q.elim
  | bk e S2 => exact q.elim
  | ct e S2 => exact q.elim
/-- the common case: bare, the boxes untouched -/
theorem RtP_same {S : Sto} {Q : D → Prop} {d : D} (hb : bare d = true) (q : Q d) : RtP S Q (.rt d S) := ⟨⟨[], (List.append_nil S).symm⟩, .inl ⟨hb, q⟩⟩
end Pv
set_option Elab.async false
set_option linter.all false
set_option maxRecDepth 100000
namespace Pv
open PySem PySem.Spec PyProof.Rows L2
/-! drawing from the hand -/
noncomputable def b_take : SX := sSeq (sIf (tOf (e2 fGt (e2 fIx (eVar 0) (eC (.int 0))) (eC (.int 0)))) (sSeq (sAsg (e2 fMod (e2 fIx (eVar 0) (eC (.int 0))) (eVar 1)) (gN 5)) (sSeq (sAsg (e2 fDiv (e2 fIx (eVar 0) (eC (.int 0))) (eVar 1)) (gS (eVar 0) (eC (.int 0)))) (sRet (eVar 5)))) (sNil)) (sSeq (sAsg (e2 fAdd (e2 fIx (eVar 0) (eC (.int 2))) (eC (.int 1))) (gS (eVar 0) (eC (.int 2)))) (sSeq (sAsg (eFz (lDisp (aCons (eC (.int 2147483647)) (aCons (eC (.int 2147483629)) (aCons (eC (.int 2147483587)) (aCons (eC (.int 2147483579)) (aCons (eC (.int 2147483563)) (aCons (eC (.int 2147483549)) (aCons (eC (.int 2147483543)) (aCons (eC (.int 2147483497)) (aNil))))))))))) (gN 2)) (sSeq (sAsg (e2 fIx (eVar 2) (e2 fMod (e2 fIx (eVar 0) (eC (.int 2))) (eC (.int 8)))) (gN 3)) (sSeq (sAsg (e2 fAdd (e2 fMod (e2 fMod (e2 fAdd (e2 fIx (eVar 0) (eC (.int 1))) (e2 fMul (e2 fMul (eC (.int 69621)) (e2 fIx (eVar 0) (eC (.int 2)))) (e2 fIx (eVar 0) (eC (.int 2))))) (e2 fPow (eVar 3) (eC (.int 2)))) (eVar 3)) (eC (.int 1))) (gN 4)) (sRet (e2 fMod (e2 fDiv (e2 fMod (e2 fMul (eVar 4) (e2 fAdd (e2 fMod (eVar 4) (eC (.int 1009))) (e2 fIx (eVar 0) (eC (.int 2))))) (eVar 3)) (eC (.int 7))) (eVar 1)))))))
noncomputable def c_take : Con := den 2 6 0 b_take
theorem CV_take {S : Sto} {h n : Nat} {k : Int} {Q : D → Sto → Prop} (H : HD n S h) (hn : n ≤ 1000000) (hk : 0 < k) (hk2 : k < 10 ^ 100) (q : ∀ r S', 0 ≤ r → r < k → St h (n + 1) S S' → Q (.int r) S') : CV c_take [.ref h, .int k] S Q := by
  refine CV_hand (h := h) (n := n + 1) H.lt rfl ?_
  obtain ⟨o, h1, a, b, c, rfl, ha, ha2, hb, hb2, hc, hc2⟩ := H
  have hx := box_of h1
  have hl : h < S.length := (List.getElem?_eq_some_iff.mp h1).1
  have hy : ∀ ds, boxAt (S.set h (.lst ds)) h = some ds := fun ds => box_of (List.getElem?_set_self hl)
  have i0 : ixN 3 0 = some 0 := rfl
  have i2 : ixN 3 2 = some 2 := rfl
  unfold b_take
  (simp_arith [hx, hy, i0, i2])
  have ok : ∀ {a' c' : Int}, 0 ≤ a' → a' < 10 ^ 120 → 0 ≤ c' → c' ≤ n + 1 → HD (n + 1) (S.set h (.lst [.int a', .int b, .int c'])) h := fun {a' c'} h3 h4 h5 h6 => ⟨_, List.getElem?_set_self hl, a', b, c', rfl, h3, h4, hb, hb2, h5, by omega⟩
  split
  · have e1 : a.fmod k = a % k := Int.fmod_eq_emod_of_nonneg _ (by omega)
    have e2 : a.fdiv k = a / k := Int.fdiv_eq_ediv_of_nonneg _ (by omega)
    have l1 : 0 ≤ a / k := Int.ediv_nonneg ha (by omega)
    have l2 : a / k ≤ a := Int.ediv_le_self _ ha
    have l3 : 0 ≤ a % k := Int.emod_nonneg _ (by omega)
    have l4 : a % k < k := Int.emod_lt_of_pos _ hk
    rw [e1, e2]
    exact ⟨by omega, sm_div (sm_le (10 ^ 100) (by omega)) (by omega), ok l1 (by omega) hc (by omega), .set, .inl ⟨rfl, fun S' hS => q _ S' l3 l4 hS⟩⟩
  · have e1 : (c + 1).fmod 8 = (c + 1) % 8 := Int.fmod_eq_emod_of_nonneg _ (by omega)
    have l3 : 0 ≤ (c + 1) % 8 := Int.emod_nonneg _ (by omega)
    have l4 : (c + 1) % 8 < 8 := Int.emod_lt_of_pos _ (by omega)
    refine ⟨rfl, by omega, ?_⟩
    rw [e1]
    obtain ⟨d, hd, hm, _⟩ := at_in (l := [D.int 2147483647, D.int 2147483629, D.int 2147483587, D.int 2147483579, D.int 2147483563, D.int 2147483549, D.int 2147483543, D.int 2147483497]) l3 (by simpa using l4)
    have hp : ∃ p : Int, d = .int p ∧ 2147483497 ≤ p ∧ p ≤ 2147483647 := by
      simp only [List.mem_cons, List.not_mem_nil, or_false] at hm
      rcases hm with rfl | rfl | rfl | rfl | rfl | rfl | rfl | rfl <;> exact ⟨_, rfl, by omega, by omega⟩
    obtain ⟨p, rfl, p1, p2⟩ := hp
    (simp_arith [hd])
    have p3 : (2 : Int).toNat = 2 := rfl
    have pp : 0 < p ^ 2 := by rw [show (2:Nat) = 1 + 1 from rfl, Int.pow_succ, Int.pow_succ]; simp; exact Int.mul_pos (by omega) (by omega)
    rw [p3]
    generalize hz : ((b + 69621 * (c + 1) * (c + 1)).fmod (p ^ 2)).fmod p + 1 = z
    have z1 : 0 < z ∧ z ≤ p := by
      rw [← hz, Int.fmod_eq_emod_of_nonneg _ (by omega : 0 ≤ p)]
      have := Int.emod_nonneg ((b + 69621 * (c + 1) * (c + 1)).fmod (p ^ 2)) (by omega : p ≠ 0)
      have := Int.emod_lt_of_pos ((b + 69621 * (c + 1) * (c + 1)).fmod (p ^ 2)) (by omega : 0 < p)
      omega
    have z2 : z.fmod 1009 = z % 1009 := Int.fmod_eq_emod_of_nonneg _ (by omega)
    generalize hw : ((z * (z.fmod 1009 + (c + 1))).fmod p).fdiv 7 = w
    have w1 : w.fmod k = w % k := Int.fmod_eq_emod_of_nonneg _ (by omega)
    have w3 : 0 ≤ w % k := Int.emod_nonneg _ (by omega)
    have w4 : w % k < k := Int.emod_lt_of_pos _ hk
    rw [w1, z2]
    refine ⟨sm_mul (sm_le (10 ^ 100) (by omega)) (sm_le (10 ^ 100) (by omega)), sm_mul (sm_le (10 ^ 100) (by omega)) (sm_le (10 ^ 100) (by omega)), ?_, by omega, by omega, by omega, sm_mul (sm_le (10 ^ 100) (by omega)) (sm_le (10 ^ 100) (by omega)), by omega, sm_div (sm_le (10 ^ 100) (by omega)) (by omega), by omega, ?_⟩
    · unfold powOk
      rw [decide_eq_true (by omega : (0:Int) ≤ 2), decide_eq_true (by omega : (2:Int) ≤ 1000000), decide_eq_true (by omega : p.natAbs < 18446744073709551616)]
      rfl
    · exact ⟨ok ha ha2 (by omega) (by omega), .set, .inl ⟨rfl, fun S' hS => q _ S' w3 w4 hS⟩⟩
end Pv
set_option Elab.async false
set_option linter.all false
set_option maxRecDepth 100000
namespace Pv
open PySem PySem.Spec PyProof.Rows L2
noncomputable def b_hand2 : SX := sSeq (sAsg (e2 fMul (e2 fMod (eCB (fn1 gAbs) (aCons (eVar 2) (aNil))) (e2 fMul (e2 fPow (eC (.int 10)) (eC (.int 60))) (e2 fPow (eC (.int 10)) (eC (.int 60))))) (eCB (fn1 gInt) (aCons (e2 fGe (eCB (fn1 gAbs) (aCons (eVar 2) (aNil))) (e2 fPow (eC (.int 10)) (eC (.int 18)))) (aNil)))) (gN 3)) (sRet (eBx (lDisp (aCons (eVar 3) (aCons (e2 fAdd (e2 fAdd (e2 fMod (eVar 2) (eC (.int 2305843009213693951))) (e2 fMul (eC (.int 104729)) (eVar 1))) (eC (.int 7))) (aCons (eC (.int 0)) (aNil)))))))
noncomputable def b_hand : SX := sSeq (sAsg (eIf (tOf (e2 fLt (eVar 1) (eCB (fn1 gLen) (aCons (eVar 0) (aNil))))) (e2 fIx (eVar 0) (eVar 1)) (eC (.int 0))) (gN 2)) b_hand2
noncomputable def b_of (k_take : Con) : SX := sRet (e2 fIx (eVar 1) (eCall k_take (aCons (eVar 0) (aCons (eCB (fn1 gLen) (aCons (eVar 1) (aNil))) (aNil)))))
noncomputable def c_of : Con := den 2 2 0 (b_of c_take)
noncomputable def c_hand : Con := den 2 4 1 b_hand
/-- a sequence that stands fast -/
def fixed (x : D) (ds : List D) : Prop := x = .tup ds ∨ x = .lst ds ∨ x = .rol ds
theorem fixed.seq {x : D} {ds : List D} (h : fixed x ds) (S : Sto) : seqOf S x = some ds := by rcases h with rfl | rfl | rfl <;> rfl
theorem fixed.len {x : D} {ds : List D} (h : fixed x ds) (S : Sto) : gLen S x = some (.int ds.length) := by rcases h with rfl | rfl | rfl <;> rfl
theorem fixed.ix {x : D} {ds : List D} (h : fixed x ds) (S : Sto) (i : Int) : fIx S x (.int i) = atI ds i := by rcases h with rfl | rfl | rfl <;> rfl
theorem CV_of {S : Sto} {h n : Nat} {x : D} {ds : List D} {Q : D → Sto → Prop} (H : HD n S h) (hn : n ≤ 1000000) (hx : fixed x ds) (h0 : 0 < ds.length) (h1 : ds.length < 10 ^ 100) (hb : ∀ d ∈ ds, bare d = true) (q : ∀ d S', d ∈ ds → St h (n + 1) S S' → Q d S') : CV c_of [.ref h, x] S Q := by
  refine CV_hand (h := h) (n := n + 1) H.lt rfl ?_
  unfold b_of
  (simp_arith [hx.len])
  refine CV_take H hn (by omega) (by omega) fun r S' r0 r1 hS => ?_
  obtain ⟨u, u1, u2, _⟩ := at_in r0 r1
  rw [hx.ix, u1, BV_some]
  exact ⟨hS.hd, hS.up, .inl ⟨hb u u2, fun S'' hS2 => q u S'' u2 hS2⟩⟩
theorem powOk_of {i j : Int} (h0 : 0 ≤ j) (h1 : j ≤ 1000000) (h2 : i.natAbs < 18446744073709551616) : powOk i j = true := by
  unfold powOk
  rw [decide_eq_true h0, decide_eq_true h1, decide_eq_true h2]
  rfl
theorem CV_newhand {S : Sto} {ns : List Int} {k : Int} {Q : D → Sto → Prop} (hk : 0 ≤ k) (hk2 : k ≤ 1000000) (q : ∀ o, HdOk 0 o → Q (.ref S.length) (S ++ [o])) : CV c_hand [.rol (ns.map D.int), .int k] S Q := by
  refine CV_den rfl ?_
  have tail : ∀ z : Int, SV b_hand2 [some (.rol (ns.map D.int)), some (.int k), some (.int z), none] S (Rt S 1 Q) := by
    intro z
    unfold b_hand2
    (simp_arith [])
    have e1 : ((if z < 0 then -z else z) : Int).fmod (10 ^ Int.toNat 60 * 10 ^ Int.toNat 60) = ((if z < 0 then -z else z) : Int) % 10 ^ 120 := Int.fmod_eq_emod_of_nonneg _ (by decide +kernel)
    have e2 : z.fmod 2305843009213693951 = z % 2305843009213693951 := Int.fmod_eq_emod_of_nonneg _ (by omega)
    rw [e1, e2]
    generalize ((if z < 0 then -z else z) : Int) = y
    have l1 : 0 ≤ y % 10 ^ 120 := Int.emod_nonneg _ (by omega)
    have l2 : y % 10 ^ 120 < 10 ^ 120 := Int.emod_lt_of_pos _ (by omega)
    have l3 : 0 ≤ z % 2305843009213693951 := Int.emod_nonneg _ (by omega)
    have l4 : z % 2305843009213693951 < 2305843009213693951 := Int.emod_lt_of_pos _ (by omega)
    generalize y % 10 ^ 120 = g at *
    generalize z % 2305843009213693951 = v at *
    generalize hj : (if (10:Int) ^ Int.toNat 18 ≤ y then (1:Int) else 0) = j
    have hj1 : j = 0 ∨ j = 1 := by rw [← hj]; split <;> simp
    have o1 : HdOk 0 (hdO (g * j) (v + 104729 * k + 7) 0) := by
      refine ⟨_, _, _, rfl, ?_, ?_, by omega, by omega, by omega, by omega⟩ <;> rcases hj1 with rfl | rfl <;> omega
    refine ⟨rfl, rfl, by decide +kernel, by decide +kernel, rfl, sm_mul (sm_le (10 ^ 130) (by omega)) (sm_le 1 (by omega)), by omega, sm_mul (sm_le (10 ^ 100) (by omega)) (sm_le (10 ^ 100) (by omega)), rfl, ?_⟩
    have hq := q _ o1
    refine ⟨by simp, fun i ds hi e => ?_, .ref S.length, ?_, ?_⟩
    · rcases Nat.lt_or_ge i S.length with hi2 | hi2
      · rw [List.getElem?_append_left hi2] at e; exact .inl e
      · have : i = S.length := by omega
        subst this
        rw [List.getElem?_append_right (Nat.le_refl _), Nat.sub_self] at e
        cases e
        exact .inr rfl
    · unfold handed; rw [if_pos (by simp [below])]
    · rw [List.take_of_length_le (by simp)]; exact hq
  unfold b_hand
  (simp_arith [])
  split
  · rename_i hl
    obtain ⟨u, u1, u2, _⟩ := at_in hk hl
    obtain ⟨z, _, rfl⟩ := List.mem_map.mp u2
    rw [u1, BV_some]
    exact tail z
  · exact tail 0
end Pv
set_option Elab.async false
set_option linter.all false
set_option maxRecDepth 100000
namespace Pv
open PySem PySem.Spec PyProof.Rows L2
/-! loops by what holds between the turns; the continuation K is kept shut -/
theorem SV_forI {g : GX} {b : SX} {gs : List Nat} {S0 : Sto} {QO : Out → Prop} (I : List D → En → Sto → Prop) : ∀ {ds : List D} {e : En} {S : Sto}, I ds e S →
    (∀ d r e S (K : En → Sto → Prop), I (d :: r) e S → (∀ e2 S2, I r e2 S2 → K e2 S2) → GV g d e S fun e1 S1 => SV b e1 S1 (turn_ QO gs S0 K)) → (∀ e S, I [] e S → QO (.nx e S)) → SV (forL g b gs S0 ds) e S QO
  | [], e, S, h, _, fin => SV_for_nil.mpr (fin e S h)
  | d :: ds, e, S, h, step, fin => by
    refine SV_for_cons.mpr ?_
    obtain ⟨e1, S1, h1, o, h2, h3⟩ := step d ds e S (I ds) h fun _ _ z => z
    refine ⟨e1, S1, h1, o, h2, ?_⟩
    cases o with
    | nx e2 S2 => exact ⟨h3.1, SV_forI I h3.2 step fin⟩
    | ct e2 S2 => exact ⟨h3.1, SV_forI I h3.2 step fin⟩
    | bk e2 S2 => exact h3
    | rt d2 S2 => exact h3
theorem SV_whileI {t : TX} {b : SX} {e : En} {S : Sto} {QO : Out → Prop} (I : Nat → En → Sto → Prop) (n : Nat) (h0 : I n e S)
    (step : ∀ n e S (K : En → Sto → Prop), I n e S → (∀ k e2 S2, k < n → I k e2 S2 → K e2 S2) → TV t e S fun c S1 => if c = true then SV b e S1 (turn_ QO [] [] K) else QO (.nx e S1)) : SV (sWhile t b) e S QO :=
  SV_while I n h0 fun n e S h => step n e S _ h fun k e2 S2 hk hi => ⟨k, hk, hi⟩
theorem LV_all {g : GX} {tt : TX} {te : EX} {gs : List Nat} {S0 : Sto} {e0 : En} (I : Nat → Sto → Prop) (P : D → Prop) : ∀ {ds : List D} {S : Sto}, I ds.length S →
    (∀ d k S (K : D → Sto → Prop), d ∈ ds → I (k + 1) S → (∀ y S3, (∀ n, n ∈ gs → S3[n]? = S0[n]?) → P y → I k S3 → K y S3) → GV g d e0 S fun e1 S1 => TV tt e1 S1 fun b S2 => b = true ∧ EV te e1 S2 K) →
    LV g tt te gs S0 e0 ds S fun out S' => out.length = ds.length ∧ (∀ y, y ∈ out → P y) ∧ I 0 S'
  | [], S, h, _ => LV_nil.mpr ⟨rfl, (fun _ z => nomatch z), h⟩
  | d :: ds, S, h, step => by
    refine LV_cons.mpr ?_
    obtain ⟨e1, S1, h1, b, S2, h2, hb, y, S3, h3, hg, hp, hi⟩ := step d ds.length S (fun y S3 => (∀ n, n ∈ gs → S3[n]? = S0[n]?) ∧ P y ∧ I ds.length S3) (List.mem_cons_self ..) h fun y S3 z1 z2 z3 => ⟨z1, z2, z3⟩
    subst hb
    refine ⟨e1, S1, h1, true, S2, h2, ?_⟩
    show (if true = true then _ else _)
    rw [if_pos rfl]
    refine ⟨y, S3, h3, hg, (LV_all I P hi fun d k S K hd => step d k S K (List.mem_cons_of_mem _ hd)).imp fun out S' q => ⟨by simp [q.1], fun z hz => ?_, q.2.2⟩⟩
    rcases List.mem_cons.mp hz with rfl | hz
    · exact hp
    · exact q.2.1 z hz
theorem LV_map {g : GX} {tt : TX} {te : EX} {gs : List Nat} {S0 S : Sto} {e0 : En} (f : D → D) (hg : ∀ n, n ∈ gs → S[n]? = S0[n]?) : ∀ {ds : List D},
    (∀ d (K : D → Sto → Prop), d ∈ ds → K (f d) S → GV g d e0 S fun e1 S1 => TV tt e1 S1 fun b S2 => b = true ∧ EV te e1 S2 K) →
    LV g tt te gs S0 e0 ds S fun out S' => out = ds.map f ∧ S' = S
  | [], _ => LV_nil.mpr ⟨rfl, rfl⟩
  | d :: ds, step => by
    refine LV_cons.mpr ?_
    obtain ⟨e1, S1, h1, b, S2, h2, hb, y, S3, h3, hp, hi⟩ := step d (fun y T => y = f d ∧ T = S) (List.mem_cons_self ..) ⟨rfl, rfl⟩
    subst hb hi hp
    refine ⟨e1, S1, h1, true, S2, h2, ?_⟩
    show (if true = true then _ else _)
    rw [if_pos rfl]
    refine ⟨_, _, h3, hg, (LV_map f hg fun d K hd => step d K (List.mem_cons_of_mem _ hd)).imp fun out S' q => ⟨by rw [q.1]; rfl, q.2⟩⟩
theorem LV_filter {g : GX} {tt : TX} {te : EX} {gs : List Nat} {S0 S : Sto} {e0 : En} (p : D → Bool) (f : D → D) (hg : ∀ n, n ∈ gs → S[n]? = S0[n]?) : ∀ {ds : List D},
    (∀ d (K : D → Sto → Prop) (L : Sto → Prop), d ∈ ds → K (f d) S → L S → GV g d e0 S fun e1 S1 => TV tt e1 S1 fun b S2 => b = p d ∧ if p d = true then EV te e1 S2 K else L S2) →
    LV g tt te gs S0 e0 ds S fun out S' => out = (ds.filter p).map f ∧ S' = S
  | [], _ => LV_nil.mpr ⟨rfl, rfl⟩
  | d :: ds, step => by
    refine LV_cons.mpr ?_
    obtain ⟨e1, S1, h1, b, S2, h2, hb, h3⟩ := step d (fun y T => y = f d ∧ T = S) (fun T => T = S) (List.mem_cons_self ..) ⟨rfl, rfl⟩ rfl
    subst hb
    refine ⟨e1, S1, h1, _, S2, h2, ?_⟩
    by_cases hp : p d = true
    · rw [if_pos hp] at h3 ⊢
      obtain ⟨y, S3, h3, rfl, rfl⟩ := h3
      exact ⟨_, _, h3, hg, (LV_filter p f hg fun d K L hd => step d K L (List.mem_cons_of_mem _ hd)).imp fun out S' q => ⟨by rw [q.1, List.filter_cons_of_pos hp]; rfl, q.2⟩⟩
    · rw [if_neg hp] at h3 ⊢
      subst h3
      exact ⟨hg, (LV_filter p f hg fun d K L hd => step d K L (List.mem_cons_of_mem _ hd)).imp fun out S' q => ⟨by rw [q.1, List.filter_cons_of_neg hp], q.2⟩⟩
theorem mem_rgD {a b : Int} {d : D} (h : d ∈ rgD a b) : ∃ i : Int, d = .int i ∧ a ≤ i ∧ i < b := by
  obtain ⟨i, h1, rfl⟩ := List.mem_map.mp h
  have := List.mem_range.mp h1
  exact ⟨_, rfl, by omega, by omega⟩
theorem len_rgD {a b : Int} : (rgD a b).length = (b - a).toNat := by unfold rgD; rw [List.length_map, List.length_range]
theorem LV.lc {g : GX} {tt : TX} {te : EX} {gs : List Nat} {S0 : Sto} {e0 : En} {ds : List D} {S : Sto} {Q : List D → Sto → Prop} (h : LV g tt te gs S0 e0 ds S Q) {R : List D → Sto → Prop} (k : ∀ out S', Q out S' → szOk out.length = true ∧ R out S') :
    ∃ out S2, lcL g tt te gs S0 e0 ds S = some (out, S2) ∧ szOk out.length = true ∧ R out S2 := by
  obtain ⟨out, S2, h1, q⟩ := h
  exact ⟨out, S2, h1, k out S2 q⟩
theorem sz_le {n : Nat} (h : n ≤ 16777216) : szOk n = true := decide_eq_true h
theorem rg_ok {i : Int} (h : -4611686018427387904 ≤ i) (h2 : i < 4611686018427387904) : rgOk i = true := by unfold rgOk; rw [decide_eq_true h, decide_eq_true h2]; rfl
theorem CV.eq {c : Con} {ds : List D} {S S' : Sto} {v : D} (h : CV c ds S fun d T => d = v ∧ T = S') : c ds S = some (v, S') := by
  obtain ⟨d, T, h1, rfl, rfl⟩ := h
  exact h1
/-! the law's own loop, in its common form -/
noncomputable def b_lawM (m t : Int) (k_hand k_right : Con) : SX := sSeq (sFor (iRg1 (eCB (fn2 gMax2) (aCons (eC (.int 1)) (aCons (eCB (fn2 gMin2) (aCons (eC (.int m)) (aCons (eCB (fn1 gLen) (aCons (eVar 0) (aNil))) (aNil)))) (aNil))))) (gN 1) (sSeq (sAsg (eCall k_hand (aCons (eVar 0) (aCons (eVar 1) (aNil)))) (gN 2)) (sIf (tNot' (tOf (eCB (fn1 gAll) (aCons (eFz (lLc (iRg1 (eC (.int t))) (gN 3) (tYes') (eCall k_right (aCons (eVar 2) (aNil))) [3])) (aNil))))) (sRet (eC (.bl false))) (sNil)))) (sRet (eC (.bl true)))
theorem all_true : ∀ {ds : List D}, (∀ y, y ∈ ds → y = .bl true) → boolsOf ds = some (List.replicate ds.length true)
  | [], _ => rfl
  | d :: ds, h => by
    rw [h d (List.mem_cons_self ..)]
    show (boolsOf ds).map _ = _
    rw [all_true fun y hy => h y (List.mem_cons_of_mem _ hy)]
    rfl
theorem law_main {m t : Int} {k_right : Con} {N : Nat} (W : Nat) (ht : 0 ≤ t) (ht2 : t ≤ 1000) (hm : 1 ≤ m) (hm2 : m ≤ 1000) (hW : W * t.toNat ≤ N) (hr : ∀ (S : Sto) (h n : Nat), HD n S h → n + W ≤ N → CV k_right [.ref h] S fun d S' => d = .bl true ∧ St h (n + W) S S') (ns : List Int) :
    den 1 4 0 (b_lawM m t c_hand k_right) [.rol (ns.map D.int)] [] = some (.bl true, []) := by
  refine CV.eq (CV_den rfl ?_)
  unfold b_lawM
  (simp_arith [])
  have hb : ∀ z : Int, 1 ≤ (if (if z < m then z else m) > 1 then (if z < m then z else m) else 1) ∧ (if (if z < m then z else m) > 1 then (if z < m then z else m) else 1) ≤ 1000 := fun z => by split <;> split <;> omega
  obtain ⟨b1, b2⟩ := hb ((ns.map D.int).length : Int)
  generalize (if (if ((ns.map D.int).length : Int) < m then ((ns.map D.int).length : Int) else m) > 1 then (if ((ns.map D.int).length : Int) < m then ((ns.map D.int).length : Int) else m) else 1) = z at *
  refine ⟨rg_ok (by omega) (by omega), ?_⟩
  refine SV_forI (fun r e S => (∀ d, d ∈ r → ∃ i : Int, d = .int i ∧ 0 ≤ i ∧ i < z) ∧ ∃ x y u, e = [some (.rol (ns.map D.int)), x, y, u]) ⟨fun d hd => mem_rgD hd, _, _, _, rfl⟩ ?_ ?_
  · rintro d r e S K ⟨hr1, x, y, u, rfl⟩ hK
    obtain ⟨i, rfl, i0, i1⟩ := hr1 d (List.mem_cons_self ..)
    (simp_arith [])
    refine CV_newhand i0 (by omega) fun o ho => ?_
    have h0 : HD 0 (S ++ [o]) S.length := ⟨o, by simp, ho⟩
    (simp_arith [])
    refine ⟨rg_ok (by omega) (by omega), ?_⟩
    refine (LV_all (fun k S' => HD (W * (t.toNat - k)) S' S.length ∧ k ≤ t.toNat) (fun y => y = .bl true) ⟨?_, ?_⟩ ?_).lc ?_
    · rw [len_rgD]; exact h0.mono (by simp)
    · rw [len_rgD]; omega
    · rintro d k S1 K2 hd ⟨h1, hk⟩ hK2
      (simp_arith [])
      refine (hr S1 S.length _ h1 ?_).imp fun d S' q => hK2 _ _ (fun n hn => nomatch hn) q.1 ⟨q.2.hd.mono ?_, by omega⟩
      · have : W * (t.toNat - (k + 1)) + W = W * (t.toNat - k) := by rw [← Nat.mul_succ]; congr 1; omega
        rw [this]
        exact Nat.le_trans (Nat.mul_le_mul_left _ (by omega)) hW
      · rw [← Nat.mul_succ]; exact Nat.mul_le_mul_left _ (by omega)
    · rintro out S' ⟨hl, hp, _⟩
      rw [len_rgD] at hl
      refine ⟨sz_le (by omega), ?_⟩
      have ea : gAll S' (.lst out) = some (.bl true) := by
        show (boolsOf out).map _ = _
        rw [all_true hp]
        simp
      rw [ea]
      (simp_arith [])
      exact ⟨(fun n hn => nomatch hn), hK _ _ ⟨fun d hd => hr1 d (List.mem_cons_of_mem _ hd), _, _, _, rfl⟩⟩
  · rintro e S ⟨_, x, y, u, rfl⟩
    (simp_arith [])
    exact ⟨Nat.zero_le _, (fun i ds hi => absurd hi (Nat.not_lt_zero _)), .bl true, rfl, rfl, rfl⟩
end Pv
set_option Elab.async false
set_option linter.all false
set_option maxRecDepth 100000
namespace Pv
open PySem PySem.Spec PyProof.Rows L2
/-! data of short leaves: repr and == answer -/
mutual
def shortB (k : Nat) : D → Bool
  | .non => true
  | .bl _ => true
  | .int i => decide (i.natAbs < 10 ^ k)
  | .str x => PyData.strOk x && (x.cps.toList.all fun c => decide (c < 16 ^ 8)) && decide (x.cps.size ≤ 4 * k)
  | .tup xs => shortL k xs
  | .lst xs => shortL k xs
  | .rol xs => shortL k xs
  | .dic _ _ => false
  | .ref _ => false
def shortL (k : Nat) : List D → Bool
  | [] => true
  | d :: ds => shortB k d && shortL k ds
end
mutual
def dep : D → Nat
  | .tup xs => depL xs + 1
  | .lst xs => depL xs + 1
  | .rol xs => depL xs + 1
  | _ => 0
def depL : List D → Nat
  | [] => 0
  | d :: ds => max (dep d) (depL ds)
end
mutual
def cnt : D → Nat
  | .tup xs => cntL xs
  | .lst xs => cntL xs
  | .rol xs => cntL xs
  | _ => 1
def cntL : List D → Nat
  | [] => 0
  | d :: ds => cnt d + 1 + cntL ds
end
mutual
theorem short_pd {k : Nat} (hk : 0 < k) : ∀ d : D, shortB k d = true → flat d = true ∧ (pd d).depth = dep d ∧ (pd d).canLay0 = true ∧ (k ≤ 470 → (pd d).showable = true ∧ (pd d).leavesShort 600 = true) ∧ (pd d).hasDict = false ∧ (pd d).weight ≤ cnt d * (4 * k)
  | .non, _ => ⟨rfl, rfl, rfl, fun _ => ⟨rfl, rfl⟩, rfl, Nat.zero_le _⟩
  | .bl b, _ => ⟨rfl, rfl, rfl, fun _ => ⟨rfl, rfl⟩, rfl, Nat.zero_le _⟩
  | .int i, h => by
    have h : i.natAbs < 10 ^ k := of_decide_eq_true h
    have hl : i.natAbs < 2 ^ (4 * k) := Nat.lt_of_lt_of_le h (by rw [Nat.pow_mul]; exact Nat.pow_le_pow_left (by decide) k)
    have hl2 := log2_lt hl (by omega)
    refine ⟨rfl, rfl, rfl, fun hk2 => ⟨?_, ?_⟩, rfl, ?_⟩
    · exact decide_eq_true (by omega)
    · have e := int_text_length_le10 hk h
      refine decide_eq_true ?_
      show (Str.ofString (toString i)).length ≤ 600
      rw [PySem.ofString_length]; omega
    · show (if i == 0 then 0 else i.natAbs.log2 + 1) ≤ 1 * (4 * k)
      split <;> omega
  | .str x, h => by
    obtain ⟨h, h3⟩ := Bool.and_eq_true_iff.mp h
    obtain ⟨h1, h2⟩ := Bool.and_eq_true_iff.mp h
    have h3 := of_decide_eq_true h3
    exact ⟨rfl, rfl, h1, fun _ => ⟨rfl, h2⟩, rfl, by show x.cps.size ≤ 1 * (4 * k); omega⟩
  | .tup xs, h => by
    obtain ⟨a, b, c, e, f, g⟩ := shortL_pd hk xs h
    exact ⟨a, congrArg (· + 1) b, c, e, f, g⟩
  | .lst xs, h => by
    obtain ⟨a, b, c, e, f, g⟩ := shortL_pd hk xs h
    exact ⟨a, congrArg (· + 1) b, c, e, f, g⟩
  | .rol xs, h => by
    obtain ⟨a, b, c, e, f, g⟩ := shortL_pd hk xs h
    exact ⟨a, congrArg (· + 1) b, c, e, f, g⟩
  | .dic _ _, h => nomatch h
  | .ref _, h => nomatch h
theorem shortL_pd {k : Nat} (hk : 0 < k) : ∀ ds : List D, shortL k ds = true → flatL ds = true ∧ PyData.depthAll (pdL ds) = depL ds ∧ PyData.canLayAll0 (pdL ds) = true ∧ (k ≤ 470 → PyData.showableAll (pdL ds) = true ∧ PyData.leavesShortAll 600 (pdL ds) = true) ∧ PyData.hasDictAll (pdL ds) = false ∧ PyData.weightAll (pdL ds) ≤ cntL ds * (4 * k)
  | [], _ => ⟨rfl, rfl, rfl, fun _ => ⟨rfl, rfl⟩, rfl, Nat.zero_le _⟩
  | d :: ds, h => by
    obtain ⟨h1, h2⟩ := Bool.and_eq_true_iff.mp h
    obtain ⟨a, b, c, e, f, g⟩ := short_pd hk d h1
    obtain ⟨a', b', c', e', f', g'⟩ := shortL_pd hk ds h2
    refine ⟨?_, ?_, ?_, fun z => ⟨?_, ?_⟩, ?_, ?_⟩
    · show (flat d && flatL ds) = true; rw [a, a']; rfl
    · show max (pd d).depth (PyData.depthAll (pdL ds)) = max (dep d) (depL ds); rw [b, b']
    · show ((pd d).canLay0 && PyData.canLayAll0 (pdL ds)) = true; rw [c, c']; rfl
    · show ((pd d).showable && PyData.showableAll (pdL ds)) = true; rw [(e z).1, (e' z).1]; rfl
    · show ((pd d).leavesShort 600 && PyData.leavesShortAll 600 (pdL ds)) = true; rw [(e z).2, (e' z).2]; rfl
    · show ((pd d).hasDict || PyData.hasDictAll (pdL ds)) = false; rw [f, f']; rfl
    · show (pd d).weight + 1 + PyData.weightAll (pdL ds) ≤ (cnt d + 1 + cntL ds) * (4 * k)
      rw [Nat.add_mul, Nat.add_mul]; omega
end
theorem pdS_short {S : Sto} {k : Nat} {d : D} (hk : 0 < k) (h : shortB k d = true) : pdS S d = some (pd d) := by
  have hf := (short_pd hk d h).1
  unfold pdS
  split
  · exact nomatch h
  · rw [if_pos hf]
/-- repr of short data -/
theorem r_repr {S : Sto} {d : D} (k : Nat) (h : shortB k d = true) (h1 : dep d ≤ 60) (h2 : cnt d * (4 * k) ≤ 20000) (hk : 0 < k := by decide) (hk2 : k ≤ 470 := by decide) : gRepr S d = some (.str (pd d).shown) := by
  obtain ⟨a, b, c, e, f, g⟩ := short_pd hk d h
  unfold gRepr
  rw [pdS_short hk h, Option.bind_some, if_pos]
  unfold reprOk
  rw [(e hk2).1, (e hk2).2, f, b, decide_eq_true h1, decide_eq_true (Nat.le_trans g h2)]
  rfl
theorem shaped_short {k : Nat} {d : D} (hk : 0 < k) (h : shortB k d = true) (h1 : dep d ≤ 64) : SeqAt.shaped (pd d) = true := by
  obtain ⟨a, b, c, e, f, g⟩ := short_pd hk d h
  unfold SeqAt.shaped
  rw [c, b, decide_eq_true h1]
  rfl
/-- a thing equals itself -/
theorem r_eq_self {S : Sto} {d : D} (k : Nat) (h : shortB k d = true) (h1 : dep d ≤ 64) (hk : 0 < k := by decide) : fEq S d d = some (.bl true) := by
  have h2 := pdS_short (S := S) hk h
  have h3 := shaped_short hk h h1
  have h4 := SeqAt.eqv_refl (pd d) (short_pd hk d h).2.2.1
  have gen : ((pdS S d).bind fun p => (pdS S d).bind fun q => if (SeqAt.shaped p && SeqAt.shaped q) = true then some (D.bl (PyData.eqv p q)) else none) = some (.bl true) := by
    rw [h2]
    show (if (SeqAt.shaped (pd d) && SeqAt.shaped (pd d)) = true then some (D.bl (PyData.eqv (pd d) (pd d))) else none) = _
    rw [h3, h4]
    rfl
  cases d with
  | int i => show some (D.bl (decide (i = i))) = _; simp
  | str i => show some (D.bl (decide (i = i))) = _; simp
  | _ => exact gen
theorem r_ne_self {S : Sto} {d : D} (k : Nat) (h : shortB k d = true) (h1 : dep d ≤ 64) (hk : 0 < k := by decide) : fNe S d d = some (.bl false) := by
  unfold fNe
  rw [r_eq_self k h h1 hk]
  rfl
/-! Euclid's loop -/
theorem set_self {e : En} {i : Nat} {x : Option D} (h : e[i]? = some x) : e.set i x = e := by
  obtain ⟨hl, rfl⟩ := List.getElem?_eq_some_iff.mp h
  exact List.set_getElem_self hl
theorem gcd_step {x y : Int} (hx : 0 ≤ x) (hy : 0 ≤ y) (h0 : y ≠ 0) : Int.gcd y (x % y) = Int.gcd x y := by
  rw [Int.gcd_eq_natAbs_gcd_natAbs, Int.gcd_eq_natAbs_gcd_natAbs, Int.natAbs_emod_of_nonneg hx, Nat.gcd_comm x.natAbs y.natAbs, Nat.gcd_rec y.natAbs x.natAbs, Nat.gcd_comm]
section
variable {e : En} {S : Sto} {QO : Out → Prop}
theorem SV_gcdP {i j : Nat} {x y : Int} (hij : i ≠ j) (hx : e[i]? = some (some (.int x))) (hy : e[j]? = some (some (.int y))) (hx0 : 0 ≤ x) (hy0 : 0 ≤ y) (q : QO (.nx ((e.set i (some (.int (Int.gcd x y)))).set j (some (.int 0))) S)) :
    SV (sWhile (tOf (e2 fNe (eVar j) (eC (.int 0)))) (sPar i j (aCons (eVar j) (aCons (e2 fMod (eVar i) (eVar j)) aNil)))) e S QO := by
  have hi : i < e.length := (List.getElem?_eq_some_iff.mp hx).1
  have hj : j < e.length := (List.getElem?_eq_some_iff.mp hy).1
  refine SV_while (fun n e' S' => ∃ u v : Int, n = v.toNat ∧ 0 ≤ u ∧ 0 ≤ v ∧ Int.gcd u v = Int.gcd x y ∧ e' = (e.set i (some (.int u))).set j (some (.int v)) ∧ S' = S) y.toNat ⟨x, y, rfl, hx0, hy0, rfl, by rw [set_self hx, set_self hy], rfl⟩ ?_
  rintro n e' S' ⟨u, v, rfl, hu, hv, hg, rfl, rfl⟩
  have l1 : ((e.set i (some (D.int u))).set j (some (D.int v)))[j]? = some (some (.int v)) := List.getElem?_set_self (by simpa using hj)
  have l2 : ((e.set i (some (D.int u))).set j (some (D.int v)))[i]? = some (some (.int u)) := (List.getElem?_set_ne (Ne.symm hij)).trans (List.getElem?_set_self hi)
  (simp_arith [l1, l2])
  by_cases h0 : v = 0
  · subst h0
    rw [if_neg (by simp)]
    have : (Int.gcd x y : Int) = u := by rw [← hg]; simp; omega
    rw [this] at q
    exact q
  · rw [if_pos h0]
    have e1 : u.fmod v = u % v := Int.fmod_eq_emod_of_nonneg _ hv
    have b1 : 0 ≤ u % v := Int.emod_nonneg _ h0
    have b2 : u % v < v := Int.emod_lt_of_pos _ (by omega)
    refine ⟨h0, (fun n hn => nomatch hn), (u % v).toNat, by omega, v, u % v, rfl, hv, b1, (gcd_step hu hv h0).trans hg, ?_, rfl⟩
    rw [e1, List.set_comm _ _ (Ne.symm hij), List.set_set, List.set_set]
theorem SV_gcdT {i j : Nat} {x y : Int} (hij : i ≠ j) (hx : e[i]? = some (some (.int x))) (hy : e[j]? = some (some (.int y))) (hx0 : 0 ≤ x) (hy0 : 0 ≤ y) (q : QO (.nx ((e.set i (some (.int (Int.gcd x y)))).set j (some (.int 0))) S)) :
    SV (sWhile (tOf (e2 fNe (eVar j) (eC (.int 0)))) (sAsg (eTup (aCons (eVar j) (aCons (e2 fMod (eVar i) (eVar j)) aNil))) (gT 2 (gsCons (gN i) (gsCons (gN j) gsNil))))) e S QO := by
  have hi : i < e.length := (List.getElem?_eq_some_iff.mp hx).1
  have hj : j < e.length := (List.getElem?_eq_some_iff.mp hy).1
  refine SV_while (fun n e' S' => ∃ u v : Int, n = v.toNat ∧ 0 ≤ u ∧ 0 ≤ v ∧ Int.gcd u v = Int.gcd x y ∧ e' = (e.set i (some (.int u))).set j (some (.int v)) ∧ S' = S) y.toNat ⟨x, y, rfl, hx0, hy0, rfl, by rw [set_self hx, set_self hy], rfl⟩ ?_
  rintro n e' S' ⟨u, v, rfl, hu, hv, hg, rfl, rfl⟩
  have l1 : ((e.set i (some (D.int u))).set j (some (D.int v)))[j]? = some (some (.int v)) := List.getElem?_set_self (by simpa using hj)
  have l2 : ((e.set i (some (D.int u))).set j (some (D.int v)))[i]? = some (some (.int u)) := (List.getElem?_set_ne (Ne.symm hij)).trans (List.getElem?_set_self hi)
  (simp_arith [l1, l2])
  by_cases h0 : v = 0
  · subst h0
    rw [if_neg (by simp)]
    have : (Int.gcd x y : Int) = u := by rw [← hg]; simp; omega
    rw [this] at q
    exact q
  · rw [if_pos h0]
    have e1 : u.fmod v = u % v := Int.fmod_eq_emod_of_nonneg _ hv
    have b1 : 0 ≤ u % v := Int.emod_nonneg _ h0
    have b2 : u % v < v := Int.emod_lt_of_pos _ (by omega)
    refine ⟨h0, rfl, (fun n hn => nomatch hn), (u % v).toNat, by omega, v, u % v, rfl, hv, b1, (gcd_step hu hv h0).trans hg, ?_, rfl⟩
    rw [e1, List.set_comm _ _ (Ne.symm hij), List.set_set, List.set_set]
end

/-! fractions -/
def R (r : Rat) : D := .tup [.int r.num, .int r.den]
theorem mk_num {p : Int} {d : Nat} (h : d ≠ 0) : (mkRat p d).num = p / (p.natAbs.gcd d : Nat) := by rw [← Rat.normalize_eq_mkRat h, Rat.normalize_eq]
theorem mk_den {p : Int} {d : Nat} (h : d ≠ 0) : (mkRat p d).den = d / p.natAbs.gcd d := by rw [← Rat.normalize_eq_mkRat h, Rat.normalize_eq]
/-- what // by the greatest common divisor gives -/
theorem R_of {p q : Int} (hq : 0 < q) : D.tup [.int (p.fdiv (Int.gcd p q)), .int (q.fdiv (Int.gcd p q))] = R (mkRat p q.toNat) := by
  have hd : q.toNat ≠ 0 := by omega
  have eg : Int.gcd p q = p.natAbs.gcd q.toNat := by rw [Int.gcd_eq_natAbs_gcd_natAbs]; congr 1; omega
  unfold R
  rw [mk_num hd, mk_den hd, Int.fdiv_eq_ediv_of_nonneg _ (by omega), Int.fdiv_eq_ediv_of_nonneg _ (by omega), eg]
  congr 3
  congr 1
  rw [Int.natCast_ediv]
  congr 1
  omega
/-- the sum of fractions -/
theorem R_add {r : Rat} {u d : Int} (hd : 0 < d) : mkRat (r.num * d + u * r.den) ((r.den : Int) * d).toNat = r + mkRat u d.toNat := by
  have e : ((r.den : Int) * d).toNat = r.den * d.toNat := by
    rw [show d = ((d.toNat : Nat) : Int) by omega, ← Int.natCast_mul, Int.toNat_natCast, Int.toNat_natCast]
  have e2 := Rat.mkRat_add_mkRat r.num u (d₁ := r.den) (d₂ := d.toNat) r.den_nz (by omega)
  rw [Rat.mkRat_self] at e2
  rw [e2, e]
  congr 3
  omega
theorem R_add2 {r s : Rat} : mkRat (r.num * s.den + s.num * r.den) (r.den * s.den) = r + s := by
  have e2 := Rat.mkRat_add_mkRat r.num s.num (d₁ := r.den) (d₂ := s.den) r.den_nz s.den_nz
  rw [Rat.mkRat_self, Rat.mkRat_self] at e2
  exact e2.symm
/-- bounds of a fraction in lowest terms -/
theorem mk_bound {p : Int} {d : Nat} {c : Int} (hd : d ≠ 0) (h0 : 0 ≤ p) (h1 : p ≤ c * d) : 0 ≤ (mkRat p d).num ∧ (mkRat p d).num ≤ c * (mkRat p d).den ∧ (mkRat p d).den ≤ d := by
  rw [mk_num hd, mk_den hd]
  have g0 : 0 < p.natAbs.gcd d := Nat.gcd_pos_of_pos_right _ (by omega)
  have g1 := Nat.gcd_dvd_left p.natAbs d
  have g2 := Nat.gcd_dvd_right p.natAbs d
  generalize p.natAbs.gcd d = g at *
  obtain ⟨b, rfl⟩ := g2
  obtain ⟨a, ha⟩ := g1
  have hp : p = g * a := by have : p = (p.natAbs : Int) := by omega
                            rw [this, ha, Int.natCast_mul]
  rw [Nat.mul_div_cancel_left _ g0, hp, Int.mul_ediv_cancel_left _ (by omega)]
  refine ⟨by omega, ?_, Nat.le_mul_of_pos_left _ g0⟩
  rw [hp, Int.natCast_mul] at h1
  have h2 : (g : Int) * a ≤ g * (c * b) := by
    have : c * ((g : Int) * b) = g * (c * b) := by rw [← Int.mul_assoc, Int.mul_comm c, Int.mul_assoc]
    omega
  exact Int.le_of_mul_le_mul_left h2 (by omega)
end Pv
set_option Elab.async false
set_option linter.all false
set_option maxRecDepth 100000
namespace Pv
open PySem PySem.Spec PyProof.Rows L2
/-! rows of numbers: their greatest common divisor -/
def gcdF : Int → List Int → Int
  | g, [] => g
  | g, n :: ns => gcdF (Int.gcd g n) ns
theorem gcdF_dvd : ∀ (ns : List Int) (g : Int), gcdF g ns ∣ g ∧ ∀ n, n ∈ ns → gcdF g ns ∣ n
  | [], g => ⟨Int.dvd_refl g, fun n h => nomatch h⟩
  | m :: ns, g => by
    obtain ⟨h1, h2⟩ := gcdF_dvd ns (Int.gcd g m)
    have d1 : (Int.gcd g m : Int) ∣ g := Int.gcd_dvd_left ..
    have d2 : (Int.gcd g m : Int) ∣ m := Int.gcd_dvd_right ..
    refine ⟨Int.dvd_trans h1 d1, fun n hn => ?_⟩
    rcases List.mem_cons.mp hn with rfl | hn
    · exact Int.dvd_trans h1 d2
    · exact h2 n hn
theorem gcdF_nonneg : ∀ (ns : List Int) (g : Int), 0 ≤ g → 0 ≤ gcdF g ns
  | [], g, h => h
  | m :: ns, g, h => gcdF_nonneg ns _ (by omega)
theorem gcdF_pos {ns : List Int} {g n : Int} (h : 0 ≤ g) (hn : n ∈ ns) (h0 : n ≠ 0) : 0 < gcdF g ns := by
  have h1 := gcdF_nonneg ns g h
  have h2 := (gcdF_dvd ns g).2 n hn
  rcases Int.lt_or_eq_of_le h1 with z | z
  · exact z
  · rw [← z] at h2
    exact absurd (Int.zero_dvd.mp h2) h0
theorem gcdF_pair {p q : Int} : gcdF 0 [p, q] = Int.gcd p q := by
  show ((Int.gcd ((Int.gcd 0 p : Nat) : Int) q : Nat) : Int) = _
  rw [Int.gcd_eq_natAbs_gcd_natAbs, Int.gcd_eq_natAbs_gcd_natAbs, Int.gcd_eq_natAbs_gcd_natAbs]
  simp
noncomputable def b_common : SX := sSeq (sAsg (eC (.int 0)) (gN 1)) (sSeq (sFor (iSeq (eVar 0)) (gN 2) (sWhile (tOf (e2 fNe (eVar 2) (eC (.int 0)))) (sPar 1 2 (aCons (eVar 2) (aCons (e2 fMod (eVar 1) (eVar 2)) (aNil)))))) (sRet (eVar 1)))
noncomputable def c_common : Con := den 1 3 0 b_common
/-- a sequence in this store: its members, what must stay -/
theorem CV_common {S : Sto} {x : D} {ns : List Int} {Q : D → Sto → Prop} (hx : seqOf S x = some (ns.map D.int)) (h0 : ∀ n, n ∈ ns → 0 ≤ n) (q : Q (.int (gcdF 0 ns)) S) : CV c_common [x] S Q := by
  refine CV_plain rfl ?_
  unfold b_common
  (simp_arith [hx])
  refine SV_forI (fun r e S' => ∃ g ms u, r = ms.map D.int ∧ (∀ n, n ∈ ms → 0 ≤ n) ∧ 0 ≤ g ∧ e = [some x, some (.int g), u] ∧ gcdF g ms = gcdF 0 ns ∧ S' = S) ⟨0, ns, none, rfl, h0, by omega, rfl, rfl, rfl⟩ ?_ ?_
  · rintro d r e S' K ⟨g, ms, u, h1, h2, h3, rfl, h4, rfl⟩ hK
    cases ms with
    | nil => cases h1
    | cons m ms =>
      cases h1
      (simp_arith [])
      refine SV_gcdP (x := g) (y := m) (by decide) rfl rfl h3 (h2 m (List.mem_cons_self ..)) ?_
      exact ⟨fun n _ => rfl, hK _ _ ⟨_, ms, _, rfl, fun n hn => h2 n (List.mem_cons_of_mem _ hn), by omega, rfl, h4, rfl⟩⟩
  · rintro e S' ⟨g, ms, u, h1, h2, h3, rfl, h4, rfl⟩
    cases ms with
    | cons m ms => cases h1
    | nil =>
      (simp_arith [])
      rw [← h4] at q
      exact RtP_same rfl q
/-! the law's lowest terms of a row -/
noncomputable def b_llowest : SX := sSeq (sAsg (eC (.int 0)) (gN 1)) (sSeq (sFor (iSeq (eVar 0)) (gN 2) (sWhile (tOf (e2 fNe (eVar 2) (eC (.int 0)))) (sAsg (eTup (aCons (eVar 2) (aCons (e2 fMod (eVar 1) (eVar 2)) (aNil)))) (gT 2 (gsCons (gN 1) (gsCons (gN 2) (gsNil))))))) (sRet (eCB (fn1 gTuple) (aCons (eFz (lLc (iSeq (eVar 0)) (gN 2) (tYes') (e2 fDiv (eVar 2) (eVar 1)) [2])) (aNil)))))
noncomputable def c_llowest : Con := den 1 3 0 b_llowest
theorem sm_ints {ns : List Int} {k : Nat} (h0 : ∀ n, n ∈ ns → 0 ≤ n ∧ n ≤ k) {g n : Int} (hg : 0 ≤ g) (hn : n ∈ ns) (hz : n ≠ 0) (hd : g ∣ n) (hk : k < 2 ^ 9000 := by decide +kernel) : sm g := by
  have h1 := h0 n hn
  have h2 := Int.le_of_dvd (by omega) hd
  exact sm_le k (by omega) hk
theorem CV_llowest {S : Sto} {x : D} {ns : List Int} {Q : D → Sto → Prop} (hx : seqOf S x = some (ns.map D.int)) (h0 : ∀ n, n ∈ ns → 0 ≤ n ∧ n ≤ (10 ^ 100 : Nat)) (hp : ∃ n, n ∈ ns ∧ n ≠ 0) (hl : ns.length ≤ 1000) (q : Q (.tup ((ns.map (· / gcdF 0 ns)).map D.int)) S) : CV c_llowest [x] S Q := by
  refine CV_plain rfl ?_
  unfold b_llowest
  (simp_arith [hx])
  refine SV_forI (fun r e S' => ∃ g ms u, r = ms.map D.int ∧ (∀ n, n ∈ ms → 0 ≤ n) ∧ 0 ≤ g ∧ e = [some x, some (.int g), u] ∧ gcdF g ms = gcdF 0 ns ∧ S' = S) ⟨0, ns, none, rfl, fun n hn => (h0 n hn).1, by omega, rfl, rfl, rfl⟩ ?_ ?_
  · rintro d r e S' K ⟨g, ms, u, h1, h2, h3, rfl, h4, rfl⟩ hK
    cases ms with
    | nil => cases h1
    | cons m ms =>
      cases h1
      (simp_arith [])
      refine SV_gcdT (x := g) (y := m) (by decide) rfl rfl h3 (h2 m (List.mem_cons_self ..)) ?_
      exact ⟨fun n _ => rfl, hK _ _ ⟨_, ms, _, rfl, fun n hn => h2 n (List.mem_cons_of_mem _ hn), by omega, rfl, h4, rfl⟩⟩
  · rintro e S' ⟨g, ms, u, h1, h2, h3, rfl, h4, rfl⟩
    cases ms with
    | cons m ms => cases h1
    | nil =>
      have h4 : g = gcdF 0 ns := h4
      obtain ⟨n, hn, hz⟩ := hp
      have g0 : 0 < g := by rw [h4]; exact gcdF_pos (by omega) hn hz
      have gs : sm g := sm_ints h0 h3 hn hz (by rw [h4]; exact (gcdF_dvd ns 0).2 n hn)
      (simp_arith [hx])
      refine (LV_map (fun d => match d with | .int n => .int (n / g) | d => d) (fun n _ => rfl) fun d K hd hK => ?_).lc fun out S2 q2 => ?_
      · obtain ⟨m, hm, rfl⟩ := List.mem_map.mp hd
        (simp_arith [])
        exact ⟨sm_div gs (by omega), by rw [Int.fdiv_eq_ediv_of_nonneg _ h3]; exact hK⟩
      · obtain ⟨rfl, rfl⟩ := q2
        refine ⟨sz_le (by simp; omega), ?_⟩
        (simp_arith [])
        rw [List.map_map]
        rw [List.map_map, ← h4] at q
        refine RtP_same ?_ q
        exact bareL_iff.mpr fun d hd => by obtain ⟨m, _, rfl⟩ := List.mem_map.mp hd; rfl
/-- what the row in lowest terms is -/
theorem llowest_facts {ns : List Int} {k : Int} (h0 : ∀ n, n ∈ ns → 0 ≤ n ∧ n ≤ k) (hp : ∃ n, n ∈ ns ∧ n ≠ 0) : (ns.map (· / gcdF 0 ns)).length = ns.length ∧ (∀ n, n ∈ ns.map (· / gcdF 0 ns) → 0 ≤ n ∧ n ≤ k) ∧ ∃ n, n ∈ ns.map (· / gcdF 0 ns) ∧ n ≠ 0 := by
  obtain ⟨n, hn, hz⟩ := hp
  have g0 : 0 < gcdF 0 ns := gcdF_pos (by omega) hn hz
  refine ⟨by simp, fun m hm => ?_, n / gcdF 0 ns, List.mem_map_of_mem hn, ?_⟩
  · obtain ⟨j, hj, rfl⟩ := List.mem_map.mp hm
    obtain ⟨h1, h2⟩ := h0 j hj
    exact ⟨Int.ediv_nonneg h1 (by omega), Int.le_trans (Int.ediv_le_self _ h1) h2⟩
  · have hd := (gcdF_dvd ns 0).2 n hn
    intro e
    obtain ⟨c, hc⟩ := hd
    rw [hc, Int.mul_ediv_cancel_left _ (by omega)] at e
    subst e
    simp at hc
    exact hz hc
end Pv
set_option Elab.async false
set_option linter.all false
set_option maxRecDepth 100000
namespace Pv
open PySem PySem.Spec PyProof.Rows L2
noncomputable def b_fraction : SX := sSeq (sPar 3 4 (aCons (eCB (fn1 gAbs) (aCons (eVar 0) (aNil))) (aCons (eCB (fn1 gAbs) (aCons (eVar 1) (aNil))) (aNil)))) (sSeq (sWhile (tOf (e2 fNe (eVar 4) (eC (.int 0)))) (sPar 3 4 (aCons (eVar 4) (aCons (e2 fMod (eVar 3) (eVar 4)) (aNil))))) (sSeq (sAsg (eIf (tOf (e2 fLt (eVar 1) (eC (.int 0)))) (e1 fNeg (eC (.int 1))) (eC (.int 1))) (gN 2)) (sRet (eTup (aCons (e2 fDiv (e2 fMul (eVar 2) (eVar 0)) (eCB (fn2 gMax2) (aCons (eC (.int 1)) (aCons (eVar 3) (aNil))))) (aCons (e2 fDiv (e2 fMul (eVar 2) (eVar 1)) (eCB (fn2 gMax2) (aCons (eC (.int 1)) (aCons (eVar 3) (aNil))))) (aNil)))))))
noncomputable def c_fraction : Con := den 2 5 0 b_fraction
noncomputable def b_added (k_fraction : Con) : SX := sRet (eCall k_fraction (aCons (e2 fAdd (e2 fMul (e2 fIx (eVar 0) (eC (.int 0))) (e2 fIx (eVar 1) (eC (.int 1)))) (e2 fMul (e2 fIx (eVar 1) (eC (.int 0))) (e2 fIx (eVar 0) (eC (.int 1))))) (aCons (e2 fMul (e2 fIx (eVar 0) (eC (.int 1))) (e2 fIx (eVar 1) (eC (.int 1)))) (aNil))))
noncomputable def c_added : Con := den 2 2 0 (b_added c_fraction)
noncomputable def b_thousand (k__law_of k__law_take : Con) : SX := sSeq (sAsg (eCall k__law_of (aCons (eVar 0) (aCons (eFz (lDisp (aCons (eC (.int 0)) (aCons (eC (.int 1000)) (aCons (eC (.int 500)) (aCons (eC (.int 333)) (aCons (eCall k__law_take (aCons (eVar 0) (aCons (eC (.int 1001)) (aNil)))) (aNil)))))))) (aNil)))) (gN 2)) (sSeq (sIf (tOf (e2 fEq (eVar 1) (eC (.int 2)))) (sRet (eTup (aCons (eVar 2) (aCons (e2 fSub (eC (.int 1000)) (eVar 2)) (aNil))))) (sNil)) (sSeq (sAsg (eCall k__law_of (aCons (eVar 0) (aCons (eFz (lDisp (aCons (eC (.int 0)) (aCons (e2 fSub (eC (.int 1000)) (eVar 2)) (aCons (eCall k__law_take (aCons (eVar 0) (aCons (e2 fSub (eC (.int 1001)) (eVar 2)) (aNil)))) (aNil)))))) (aNil)))) (gN 3)) (sRet (eTup (aCons (eVar 2) (aCons (eVar 3) (aCons (e2 fSub (e2 fSub (eC (.int 1000)) (eVar 2)) (eVar 3)) (aNil))))))))
noncomputable def c_thousand : Con := den 2 4 0 (b_thousand c_of c_take)
theorem gcd_pos {p q : Int} (hq : 0 < q) : 0 < Int.gcd p q := Int.gcd_pos_of_ne_zero_right _ (by omega)
theorem gcd_le {p q : Int} (hq : 0 < q) : (Int.gcd p q : Int) ≤ q := Int.le_of_dvd hq (Int.gcd_dvd_right ..)
theorem CV_fraction {S : Sto} {u d : Int} {Q : D → Sto → Prop} (hd : 0 < d) (hu : sm u) (hd2 : sm d) (q : Q (R (mkRat u d.toNat)) S) : CV c_fraction [.int u, .int d] S Q := by
  refine CV_plain rfl ?_
  unfold b_fraction
  (simp_arith [])
  have ed : (if d < 0 then -d else d) = d := if_neg (by omega)
  have et : ∀ {α : Type} {x y : α}, (if d < 0 then x else y) = y := fun {_ _ _} => if_neg (by omega)
  have nd : ¬ d < 0 := by omega
  have g1 : Int.gcd (if u < 0 then -u else u) d = Int.gcd u d := by
    split
    · exact Int.neg_gcd
    · rfl
  have g2 := gcd_pos (p := u) hd
  have g3 := gcd_le (p := u) hd
  rw [ed]
  refine SV_gcdP (x := (if u < 0 then -u else u)) (y := d) (by decide) rfl rfl (by split <;> omega) (by omega) ?_
  rw [g1]
  (simp_arith [])
  rw [if_neg nd]
  have em : (if (Int.gcd u d : Int) > 1 then (Int.gcd u d : Int) else 1) = Int.gcd u d := by split <;> omega
  rw [em]
  have s1 : sm (1 : Int) := sm_le 1 (by decide)
  have s2 : sm (Int.gcd u d : Int) := Nat.lt_of_le_of_lt (by omega : _ ≤ d.natAbs) hd2
  refine ⟨sm_mul s1 hu, sm_div s2 (by omega), sm_mul s1 hd2, sm_div s2 (by omega), rfl, ?_⟩
  rw [Int.one_mul, Int.one_mul, R_of hd]
  exact RtP_same rfl q
theorem CV_added {S : Sto} {r s : Rat} {Q : D → Sto → Prop} (h1 : r.num.natAbs < 2 ^ 4000) (h2 : r.den < 2 ^ 4000) (h3 : s.num.natAbs < 2 ^ 4000) (h4 : s.den < 2 ^ 4000) (q : Q (R (r + s)) S) : CV c_added [R r, R s] S Q := by
  refine CV_plain rfl ?_
  unfold b_added R
  (simp_arith [])
  have w : ∀ {a : Int}, a.natAbs < 2 ^ 4000 → sm a := fun {a} h => Nat.lt_trans h (by decide +kernel)
  have hr := r.den_pos
  have hs := s.den_pos
  have m1 : ∀ {a b : Int}, a.natAbs < 2 ^ 4000 → b.natAbs < 2 ^ 4000 → (a * b).natAbs < 2 ^ 8000 := fun {a b} ha hb => by
    rw [Int.natAbs_mul]
    exact Nat.lt_of_lt_of_eq (Nat.mul_lt_mul'' ha hb) (by rw [← Nat.pow_add])
  have k2 : (r.den : Int).natAbs < 2 ^ 4000 := by omega
  have k4 : (s.den : Int).natAbs < 2 ^ 4000 := by omega
  refine ⟨sm_mul (w h1) (w k4), sm_mul (w h3) (w k2), sm_mul (w k2) (w k4), ?_⟩
  have a1 := m1 h1 k4
  have a2 := m1 h3 k2
  have a3 := m1 k2 k4
  refine CV_fraction (Int.mul_pos (by omega) (by omega)) ?_ (Nat.lt_trans a3 (by decide +kernel)) ?_
  · refine Nat.lt_of_le_of_lt (Int.natAbs_add_le _ _) (Nat.lt_of_lt_of_le (Nat.add_lt_add a1 a2) ?_)
    rw [← Nat.two_mul, ← Nat.pow_succ']
    exact Nat.pow_le_pow_right (by decide) (by decide)
  · have e : ((r.den : Int) * s.den).toNat = r.den * s.den := by rw [← Int.natCast_mul, Int.toNat_natCast]
    rw [e, R_add2]
    exact RtP_same rfl q
/-- a told row: numbers that add up to 1000 -/
def Told (many : Int) (ns : List Int) : Prop := (ns.length : Int) = many ∧ (∀ n, n ∈ ns → 0 ≤ n ∧ n ≤ 1000) ∧ ns.sum = 1000
theorem CV_thousand {S : Sto} {h n : Nat} {many : Int} {Q : D → Sto → Prop} (H : HD n S h) (hn : n + 4 ≤ 1000000) (hm : many = 2 ∨ many = 3) (q : ∀ ns S', Told many ns → St h (n + 4) S S' → Q (.tup (ns.map D.int)) S') : CV c_thousand [.ref h, .int many] S Q := by
  refine CV_hand (h := h) (n := n + 4) H.lt rfl ?_
  unfold b_thousand
  (simp_arith [])
  refine CV_take H (by omega) (by decide) (by decide) fun r1 S1 a1 a2 t1 => ?_
  (simp_arith [])
  refine ⟨rfl, CV_of t1.hd (by omega) (.inr (.inl rfl)) (by simp) (by simp) ?_ fun d S2 hd t2 => ?_⟩
  · intro d hd
    simp only [List.mem_cons, List.not_mem_nil, or_false] at hd
    rcases hd with rfl | rfl | rfl | rfl | rfl <;> rfl
  have hd2 : ∃ f : Int, d = .int f ∧ 0 ≤ f ∧ f ≤ 1000 := by
    simp only [List.mem_cons, List.not_mem_nil, or_false] at hd
    rcases hd with rfl | rfl | rfl | rfl | rfl <;> exact ⟨_, rfl, by omega, by omega⟩
  obtain ⟨f, rfl, f0, f1⟩ := hd2
  have t12 := t1.trans t2
  (simp_arith [])
  split
  · rename_i h2
    refine ⟨rfl, t12.hd.mono (by omega), t12.up, .inl ⟨rfl, fun S' hS => q [f, 1000 - f] S' ⟨by simp; omega, fun n hn => ?_, by simp; omega⟩ hS⟩⟩
    simp only [List.mem_cons, List.not_mem_nil, or_false] at hn
    rcases hn with rfl | rfl <;> omega
  · rename_i h2
    refine CV_take t12.hd (by omega) (by omega) (by omega) fun r3 S3 b1 b2 t3 => ?_
    (simp_arith [])
    refine ⟨rfl, CV_of t3.hd (by omega) (.inr (.inl rfl)) (by simp) (by simp) ?_ fun d S4 hd t4 => ?_⟩
    · intro d hd
      simp only [List.mem_cons, List.not_mem_nil, or_false] at hd
      rcases hd with rfl | rfl | rfl <;> rfl
    have hd2 : ∃ g : Int, d = .int g ∧ 0 ≤ g ∧ g ≤ 1000 - f := by
      simp only [List.mem_cons, List.not_mem_nil, or_false] at hd
      rcases hd with rfl | rfl | rfl <;> exact ⟨_, rfl, by omega, by omega⟩
    obtain ⟨g, rfl, g0, g1⟩ := hd2
    have t14 := (t12.trans t3).trans t4
    (simp_arith [])
    refine ⟨rfl, t14.hd.mono (by omega), t14.up, .inl ⟨rfl, fun S' hS => q [f, g, 1000 - f - g] S' ⟨by simp; omega, fun n hn => ?_, by simp; omega⟩ hS⟩⟩
    simp only [List.mem_cons, List.not_mem_nil, or_false] at hn
    rcases hn with rfl | rfl | rfl <;> omega
end Pv
set_option Elab.async false
set_option linter.all false
set_option maxRecDepth 100000
namespace Pv
open PySem PySem.Spec PyProof.Rows L2
/-! enumerate, append, cuts, the greatest -/
def enumJ : Nat → List D → List D
  | _, [] => []
  | j, x :: xs => .tup [.int j, x] :: enumJ (j + 1) xs
theorem enumD_eq (xs : List D) : enumD xs = enumJ 0 xs := by
  have key : ∀ (xs : List D) (j : Nat), List.zipWith (fun (i : Nat) x => D.tup [.int i, x]) (List.range' j xs.length) xs = enumJ j xs := by
    intro xs
    induction xs with
    | nil => intro j; rfl
    | cons x xs ih =>
      intro j
      rw [List.length_cons, List.range'_succ]
      show _ :: _ = _
      rw [ih (j + 1)]
      rfl
  unfold enumD
  rw [List.range_eq_range']
  exact key xs 0
theorem ex_append {S : Sto} {ds : List D} {d : D} {P : D → List D → Prop} : (∃ v ds', hAppend S ds [d] = some (v, ds') ∧ P v ds') ↔ szOk (ds.length + 1) = true ∧ P .non (ds ++ [d]) := by
  constructor
  · rintro ⟨v, ds', h, p⟩
    obtain ⟨hz, h⟩ := ite_some (show (if szOk (ds.length + 1) = true then some (D.non, ds ++ [d]) else none) = _ from h)
    cases h
    exact ⟨hz, p⟩
  · rintro ⟨hz, p⟩
    exact ⟨_, _, (if_pos hz : (if szOk (ds.length + 1) = true then some (D.non, ds ++ [d]) else none) = _), p⟩
theorem cut_to {ds : List D} {i : Int} (h : 0 ≤ i) : cutD ds none (some i) = ds.take i.toNat := by
  unfold cutD HT.sIx
  simp only [List.drop_zero, Nat.sub_zero]
  rw [if_neg (by omega)]
  by_cases hl : i.toNat ≤ ds.length
  · rw [Nat.min_eq_left hl]
  · rw [Nat.min_eq_right (by omega), List.take_of_length_le (Nat.le_refl _), List.take_of_length_le (by omega)]
theorem cut_from {ds : List D} {i : Int} (h : 0 ≤ i) : cutD ds (some i) none = ds.drop i.toNat := by
  unfold cutD HT.sIx
  simp only
  rw [if_neg (by omega)]
  by_cases hl : i.toNat ≤ ds.length
  · rw [Nat.min_eq_left hl, List.take_of_length_le (by rw [List.length_drop]; exact Nat.le_refl _)]
  · rw [Nat.min_eq_right (by omega), List.drop_of_length_le (Nat.le_refl _), List.drop_of_length_le (by omega)]
    simp
theorem r_maxX {S : Sto} {m : Nat} {ns : List Int} (h : boxAt S m = some (ns.map D.int)) (h0 : 0 < ns.length) : gMax1 S (.ref m) = some (.int (maxL ns)) := by
  unfold gMax1
  rw [show listOf S (.ref m) = boxAt S m from rfl, h, Option.bind_some, intsOf_map, Option.bind_some, if_pos h0]
theorem maxL_mem {ns : List Int} (h0 : 0 < ns.length) : maxL ns ∈ ns ∧ ∀ n, n ∈ ns → n ≤ maxL ns := by
  cases ns with
  | nil => simp at h0
  | cons n ns =>
    obtain ⟨h1, h2, h3⟩ := foldl_max_spec ns n
    refine ⟨?_, fun m hm => ?_⟩
    · show ns.foldl max n ∈ _
      rcases h1 with h | h
      · rw [h]; exact List.mem_cons_self ..
      · exact List.mem_cons_of_mem _ h
    · rcases List.mem_cons.mp hm with rfl | hm
      · exact h2
      · exact h3 m hm
theorem box_set {S : Sto} {n : Nat} {ds : List D} (h : n < S.length) : boxAt (S.set n (.lst ds)) n = some ds := box_of (List.getElem?_set_self h)
theorem r_neSs {S : Sto} {u : Str} : fNe S (.str u) (.str u) = some (.bl false) := by rw [r_neS]; simp
theorem r_eqSs {S : Sto} {u : Str} : fEq S (.str u) (.str u) = some (.bl true) := by rw [r_eqS]; simp
/-- a box kept by a call that used the hand -/
theorem St.box {h n m : Nat} {S S2 : Sto} {o : Ob} (t : St h n S S2) (hm : m ≠ h) (e : S[m]? = some o) : S2[m]? = some o :=
  (t.up.at_ m (List.getElem?_eq_some_iff.mp e).1 hm).trans e
end Pv
set_option Elab.async false
set_option linter.all false
set_option maxRecDepth 100000
namespace Pv
open PySem PySem.Spec PyProof.Rows L2
/-! a list turned about -/
theorem RepL.rev {c : C} {m : M} : ∀ {ds : List D} {vs : List V}, RepL c m ds vs → RepL c m ds.reverse vs.reverse
  | [], vs, h => by rw [show vs = [] from h]; exact rfl
  | d :: ds, vs, h => by
    obtain ⟨y, r, rfl, h1, h2⟩ := h
    rw [List.reverse_cons, List.reverse_cons]
    exact (RepL.rev h2).app (RepL.one h1)
def lRev (f : EX) : LX := fun e S => (f e S).bind fun p => (listOf p.2 p.1).map fun ds => (ds.reverse, p.2)
section
variable {X : Cx}
theorem lj_rev {a : Expr} {fa : EX} {k : Nat} {p1 p2 p3 pos : Pos} (he : EJ X a fa) : LJ X (.Subscript a (.Slice none none (some (.UnaryOp .USub (.Constant (.int 1) k p1) p2)) p3) pos) (lRev fa) := pe_wk (pe_revL he) fun σ H Q ⟨Z, m, env, v, S', e, s, er, hf, q⟩ => by
  unfold lRev at hf
  obtain ⟨⟨x, S1⟩, h1, h⟩ := Option.bind_eq_some_iff.mp hf
  obtain ⟨ds, h2, h⟩ := Option.map_eq_some_iff.mp h
  cases h
  refine ⟨Z, m, env, x, _, e, s, er, h1, fun m1 vx e1 t1 rx => ?_⟩
  obtain ⟨p, xs, rfl, hs, rl⟩ := t1.si.list rx (by rw [e1]; exact h2)
  exact ⟨p, xs, rfl, hs, fun l hl => q m1 l _ e1 t1 rl.rev hl⟩
end
theorem AV_rev {f : EX} {e : En} {S : Sto} {QL : List D → Sto → Prop} : AV (lRev f) e S QL ↔ EV f e S fun x S1 => ∃ ds, listOf S1 x = some ds ∧ QL ds.reverse S1 := by
  unfold AV EV lRev
  constructor
  · rintro ⟨v, S', h, q⟩
    obtain ⟨⟨x, S1⟩, h1, h⟩ := Option.bind_eq_some_iff.mp h
    obtain ⟨ds, h2, h⟩ := Option.map_eq_some_iff.mp h
    cases h
    exact ⟨x, _, h1, ds, h2, q⟩
  · rintro ⟨x, S1, h1, ds, h2, q⟩
    exact ⟨_, _, by rw [h1]; show (listOf S1 x).map _ = _; rw [h2]; rfl, q⟩
/-! a def that calls itself: no fuel, no promise -/
theorem FnG.none_ {P : Program} {w : World} {K : PySem.W.Frag} {mg : Str → Option Value} {base : Heap} {k : Nat} {f : Addr} {fd : FuncData} {ps : List Str} : FnG P w K mg base k f fd ps (fun _ _ => none) :=
  ⟨(fun _ _ _ h => nomatch h), fun _ _ _ _ _ _ _ _ _ _ _ _ _ ⟨_, _, _, _, _, _, _, _, h, _⟩ => nomatch h⟩
end Pv
set_option Elab.async false
set_option linter.all false
set_option maxRecDepth 100000
namespace Pv
open PySem PySem.Spec PyProof.Rows L2
/-! the words of expressions are unlike -/
theorem Wd : (("fig" : Str) = ("reg" : Str)) = False ∧ (("fig" : Str) = ("share" : Str)) = False ∧ (("fig" : Str) = ("times" : Str)) = False ∧ (("fig" : Str) = ("by" : Str)) = False ∧ (("fig" : Str) = ("when" : Str)) = False ∧ (("fig" : Str) = ("where" : Str)) = False ∧ (("fig" : Str) = ("sum" : Str)) = False ∧ (("fig" : Str) = ("less" : Str)) = False ∧ (("fig" : Str) = ("least" : Str)) = False ∧ (("fig" : Str) = ("most" : Str)) = False ∧ (("fig" : Str) = ("leaf" : Str)) = False ∧ (("reg" : Str) = ("fig" : Str)) = False ∧ (("reg" : Str) = ("share" : Str)) = False ∧ (("reg" : Str) = ("times" : Str)) = False ∧ (("reg" : Str) = ("by" : Str)) = False ∧ (("reg" : Str) = ("when" : Str)) = False ∧ (("reg" : Str) = ("where" : Str)) = False ∧ (("reg" : Str) = ("sum" : Str)) = False ∧ (("reg" : Str) = ("less" : Str)) = False ∧ (("reg" : Str) = ("least" : Str)) = False ∧ (("reg" : Str) = ("most" : Str)) = False ∧ (("reg" : Str) = ("leaf" : Str)) = False ∧ (("share" : Str) = ("fig" : Str)) = False ∧ (("share" : Str) = ("reg" : Str)) = False ∧ (("share" : Str) = ("times" : Str)) = False ∧ (("share" : Str) = ("by" : Str)) = False ∧ (("share" : Str) = ("when" : Str)) = False ∧ (("share" : Str) = ("where" : Str)) = False ∧ (("share" : Str) = ("sum" : Str)) = False ∧ (("share" : Str) = ("less" : Str)) = False ∧ (("share" : Str) = ("least" : Str)) = False ∧ (("share" : Str) = ("most" : Str)) = False ∧ (("share" : Str) = ("leaf" : Str)) = False ∧ (("times" : Str) = ("fig" : Str)) = False ∧ (("times" : Str) = ("reg" : Str)) = False ∧ (("times" : Str) = ("share" : Str)) = False ∧ (("times" : Str) = ("by" : Str)) = False ∧ (("times" : Str) = ("when" : Str)) = False ∧ (("times" : Str) = ("where" : Str)) = False ∧ (("times" : Str) = ("sum" : Str)) = False ∧ (("times" : Str) = ("less" : Str)) = False ∧ (("times" : Str) = ("least" : Str)) = False ∧ (("times" : Str) = ("most" : Str)) = False ∧ (("times" : Str) = ("leaf" : Str)) = False ∧ (("by" : Str) = ("fig" : Str)) = False ∧ (("by" : Str) = ("reg" : Str)) = False ∧ (("by" : Str) = ("share" : Str)) = False ∧ (("by" : Str) = ("times" : Str)) = False ∧ (("by" : Str) = ("when" : Str)) = False ∧ (("by" : Str) = ("where" : Str)) = False ∧ (("by" : Str) = ("sum" : Str)) = False ∧ (("by" : Str) = ("less" : Str)) = False ∧ (("by" : Str) = ("least" : Str)) = False ∧ (("by" : Str) = ("most" : Str)) = False ∧ (("by" : Str) = ("leaf" : Str)) = False ∧ (("when" : Str) = ("fig" : Str)) = False ∧ (("when" : Str) = ("reg" : Str)) = False ∧ (("when" : Str) = ("share" : Str)) = False ∧ (("when" : Str) = ("times" : Str)) = False ∧ (("when" : Str) = ("by" : Str)) = False ∧ (("when" : Str) = ("where" : Str)) = False ∧ (("when" : Str) = ("sum" : Str)) = False ∧ (("when" : Str) = ("less" : Str)) = False ∧ (("when" : Str) = ("least" : Str)) = False ∧ (("when" : Str) = ("most" : Str)) = False ∧ (("when" : Str) = ("leaf" : Str)) = False ∧ (("where" : Str) = ("fig" : Str)) = False ∧ (("where" : Str) = ("reg" : Str)) = False ∧ (("where" : Str) = ("share" : Str)) = False ∧ (("where" : Str) = ("times" : Str)) = False ∧ (("where" : Str) = ("by" : Str)) = False ∧ (("where" : Str) = ("when" : Str)) = False ∧ (("where" : Str) = ("sum" : Str)) = False ∧ (("where" : Str) = ("less" : Str)) = False ∧ (("where" : Str) = ("least" : Str)) = False ∧ (("where" : Str) = ("most" : Str)) = False ∧ (("where" : Str) = ("leaf" : Str)) = False ∧ (("sum" : Str) = ("fig" : Str)) = False ∧ (("sum" : Str) = ("reg" : Str)) = False ∧ (("sum" : Str) = ("share" : Str)) = False ∧ (("sum" : Str) = ("times" : Str)) = False ∧ (("sum" : Str) = ("by" : Str)) = False ∧ (("sum" : Str) = ("when" : Str)) = False ∧ (("sum" : Str) = ("where" : Str)) = False ∧ (("sum" : Str) = ("less" : Str)) = False ∧ (("sum" : Str) = ("least" : Str)) = False ∧ (("sum" : Str) = ("most" : Str)) = False ∧ (("sum" : Str) = ("leaf" : Str)) = False ∧ (("less" : Str) = ("fig" : Str)) = False ∧ (("less" : Str) = ("reg" : Str)) = False ∧ (("less" : Str) = ("share" : Str)) = False ∧ (("less" : Str) = ("times" : Str)) = False ∧ (("less" : Str) = ("by" : Str)) = False ∧ (("less" : Str) = ("when" : Str)) = False ∧ (("less" : Str) = ("where" : Str)) = False ∧ (("less" : Str) = ("sum" : Str)) = False ∧ (("less" : Str) = ("least" : Str)) = False ∧ (("less" : Str) = ("most" : Str)) = False ∧ (("less" : Str) = ("leaf" : Str)) = False ∧ (("least" : Str) = ("fig" : Str)) = False ∧ (("least" : Str) = ("reg" : Str)) = False ∧ (("least" : Str) = ("share" : Str)) = False ∧ (("least" : Str) = ("times" : Str)) = False ∧ (("least" : Str) = ("by" : Str)) = False ∧ (("least" : Str) = ("when" : Str)) = False ∧ (("least" : Str) = ("where" : Str)) = False ∧ (("least" : Str) = ("sum" : Str)) = False ∧ (("least" : Str) = ("less" : Str)) = False ∧ (("least" : Str) = ("most" : Str)) = False ∧ (("least" : Str) = ("leaf" : Str)) = False ∧ (("most" : Str) = ("fig" : Str)) = False ∧ (("most" : Str) = ("reg" : Str)) = False ∧ (("most" : Str) = ("share" : Str)) = False ∧ (("most" : Str) = ("times" : Str)) = False ∧ (("most" : Str) = ("by" : Str)) = False ∧ (("most" : Str) = ("when" : Str)) = False ∧ (("most" : Str) = ("where" : Str)) = False ∧ (("most" : Str) = ("sum" : Str)) = False ∧ (("most" : Str) = ("less" : Str)) = False ∧ (("most" : Str) = ("least" : Str)) = False ∧ (("most" : Str) = ("leaf" : Str)) = False ∧ (("leaf" : Str) = ("fig" : Str)) = False ∧ (("leaf" : Str) = ("reg" : Str)) = False ∧ (("leaf" : Str) = ("share" : Str)) = False ∧ (("leaf" : Str) = ("times" : Str)) = False ∧ (("leaf" : Str) = ("by" : Str)) = False ∧ (("leaf" : Str) = ("when" : Str)) = False ∧ (("leaf" : Str) = ("where" : Str)) = False ∧ (("leaf" : Str) = ("sum" : Str)) = False ∧ (("leaf" : Str) = ("less" : Str)) = False ∧ (("leaf" : Str) = ("least" : Str)) = False ∧ (("leaf" : Str) = ("most" : Str)) = False := by
  refine ⟨?_, ?_, ?_, ?_, ?_, ?_, ?_, ?_, ?_, ?_, ?_, ?_, ?_, ?_, ?_, ?_, ?_, ?_, ?_, ?_, ?_, ?_, ?_, ?_, ?_, ?_, ?_, ?_, ?_, ?_, ?_, ?_, ?_, ?_, ?_, ?_, ?_, ?_, ?_, ?_, ?_, ?_, ?_, ?_, ?_, ?_, ?_, ?_, ?_, ?_, ?_, ?_, ?_, ?_, ?_, ?_, ?_, ?_, ?_, ?_, ?_, ?_, ?_, ?_, ?_, ?_, ?_, ?_, ?_, ?_, ?_, ?_, ?_, ?_, ?_, ?_, ?_, ?_, ?_, ?_, ?_, ?_, ?_, ?_, ?_, ?_, ?_, ?_, ?_, ?_, ?_, ?_, ?_, ?_, ?_, ?_, ?_, ?_, ?_, ?_, ?_, ?_, ?_, ?_, ?_, ?_, ?_, ?_, ?_, ?_, ?_, ?_, ?_, ?_, ?_, ?_, ?_, ?_, ?_, ?_, ?_, ?_, ?_, ?_, ?_, ?_, ?_, ?_, ?_, ?_, ?_, ?_⟩ <;> exact eq_false (by decide)
noncomputable def b_figure (k__law_of k__law_take : Con) : SX := sSeq (sAsg (eFz (lDisp (aCons (eC (.int 0)) (aCons (eC (.int 1)) (aCons (e1 fNeg (eC (.int 1))) (aCons (eC (.int 50)) (aCons (eC (.int 100)) (aCons (eC (.int 250)) (aCons (eC (.int 500)) (aCons (e1 fNeg (eC (.int 500))) (aCons (eC (.int 1000)) (aCons (e1 fNeg (eC (.int 1000))) (aNil))))))))))))) (gN 1)) (sRet (eCall k__law_of (aCons (eVar 0) (aCons (eFz (l2 fAddL (eVar 1) (eFz (lDisp (aCons (e2 fSub (eCall k__law_take (aCons (eVar 0) (aCons (eC (.int 2001)) (aNil)))) (eC (.int 1000))) (aCons (e2 fSub (eCall k__law_take (aCons (eVar 0) (aCons (eC (.int 201)) (aNil)))) (eC (.int 100))) (aNil))))))) (aNil)))))
noncomputable def c_figure : Con := den 1 2 0 (b_figure c_of c_take)
noncomputable def b_leaf (k__law_take k__law_figure : Con) : SX := sSeq (sAsg (eCall k__law_take (aCons (eVar 0) (aCons (eC (.int 4)) (aNil)))) (gN 2)) (sSeq (sIf (tOf (e2 fEq (eVar 2) (eC (.int 0)))) (sRet (eTup (aCons (eC (.str "reg")) (aCons (eCall k__law_take (aCons (eVar 0) (aCons (eC (.int 4)) (aNil)))) (aNil))))) (sNil)) (sRet (eIf (tOf (e2 fEq (eVar 2) (eC (.int 1)))) (eTup (aCons (eC (.str "fig")) (aCons (eCall k__law_figure (aCons (eVar 0) (aNil))) (aNil)))) (eTup (aCons (eC (.str "share")) (aCons (eCall k__law_take (aCons (eVar 0) (aCons (eVar 1) (aNil)))) (aNil)))))))
noncomputable def c_leaf : Con := den 2 3 0 (b_leaf c_take c_figure)
noncomputable def b_registers (k__law_figure : Con) : SX := sRet (eCB (fn1 gTuple) (aCons (eFz (lLc (iRg1 (eC (.int 4))) (gN 1) (tYes') (eCall k__law_figure (aCons (eVar 0) (aNil))) [1])) (aNil)))
noncomputable def c_registers : Con := den 1 2 0 (b_registers c_figure)
noncomputable def b_shares (k__law_take k__law_of k__law_lowest : Con) : SX := sSeq (sAsg (eBx (lDisp (aNil))) (gN 2)) (sSeq (sFor (iRg1 (eVar 1)) (gN 3) (sSeq (sAsg (eFz (lDisp (aCons (eC (.int 0)) (aCons (eC (.int 1)) (aCons (eC (.int 1)) (aCons (eC (.int 2)) (aCons (eCall k__law_take (aCons (eVar 0) (aCons (eC (.int 12)) (aNil)))) (aCons (eCall k__law_take (aCons (eVar 0) (aCons (eC (.int 1001)) (aNil)))) (aCons (e2 fAdd (e2 fPow (eC (.int 10)) (eC (.int 12))) (eCall k__law_take (aCons (eVar 0) (aCons (eC (.int 9)) (aNil))))) (aNil)))))))))) (gN 4)) (sExpr (eMt hAppend (eVar 2) (aCons (eCall k__law_of (aCons (eVar 0) (aCons (eVar 4) (aNil)))) (aNil)))))) (sSeq (sIf (tOf (e2 fEq (eCB (fn1 gMax1) (aCons (eVar 2) (aNil))) (eC (.int 0)))) (sAsg (eC (.int 1)) (gS (eVar 2) (eCall k__law_take (aCons (eVar 0) (aCons (eVar 1) (aNil)))))) (sNil)) (sRet (eCall k__law_lowest (aCons (eVar 2) (aNil))))))
noncomputable def c_shares : Con := den 2 5 0 (b_shares c_take c_of c_llowest)
noncomputable def b_worth (k_worth : Con) : SX := sSeq (sAsg (e2 fIx (eVar 0) (eC (.int 0))) (gN 3)) (sSeq (sIf (tOf (e2 fEq (eVar 3) (eC (.str "fig")))) (sRet (e2 fMul (e2 fIx (eVar 0) (eC (.int 1))) (eCB (fn1 gSum) (aCons (eVar 2) (aNil))))) (sNil)) (sSeq (sIf (tOf (e2 fEq (eVar 3) (eC (.str "reg")))) (sRet (e2 fMul (e2 fIx (eVar 1) (e2 fIx (eVar 0) (eC (.int 1)))) (eCB (fn1 gSum) (aCons (eVar 2) (aNil))))) (sNil)) (sSeq (sIf (tOf (e2 fEq (eVar 3) (eC (.str "share")))) (sRet (e2 fMul (eC (.int 1000)) (e2 fIx (eVar 2) (e2 fIx (eVar 0) (eC (.int 1)))))) (sNil)) (sSeq (sIf (tOf (e2 fEq (eVar 3) (eC (.str "times")))) (sRet (e2 fMul (e2 fIx (eVar 0) (eC (.int 1))) (eCall k_worth (aCons (e2 fIx (eVar 0) (eC (.int 2))) (aCons (eVar 1) (aCons (eVar 2) (aNil))))))) (sNil)) (sSeq (sIf (tOf (e2 fEq (eVar 3) (eC (.str "by")))) (sRet (e2 fMul (e2 fIx (eVar 1) (e2 fIx (eVar 0) (eC (.int 1)))) (eCall k_worth (aCons (e2 fIx (eVar 0) (eC (.int 2))) (aCons (eVar 1) (aCons (eVar 2) (aNil))))))) (sNil)) (sSeq (sIf (tOf (e2 fEq (eVar 3) (eC (.str "when")))) (sRet (eCall k_worth (aCons (e2 fIx (eVar 0) (eIf (tOf (e2 fLt (e2 fIx (eVar 1) (e2 fIx (eVar 0) (eC (.int 1)))) (e2 fIx (eVar 0) (eC (.int 2))))) (eC (.int 3)) (eC (.int 4)))) (aCons (eVar 1) (aCons (eVar 2) (aNil)))))) (sNil)) (sSeq (sIf (tOf (e2 fEq (eVar 3) (eC (.str "where")))) (sSeq (sAsg (e2 fLt (e2 fMul (eC (.int 1000)) (e2 fIx (eVar 2) (e2 fIx (eVar 0) (eC (.int 1))))) (e2 fMul (e2 fIx (eVar 0) (eC (.int 2))) (eCB (fn1 gSum) (aCons (eVar 2) (aNil))))) (gN 4)) (sRet (eCall k_worth (aCons (e2 fIx (eVar 0) (eIf (tOf (eVar 4)) (eC (.int 3)) (eC (.int 4)))) (aCons (eVar 1) (aCons (eVar 2) (aNil))))))) (sNil)) (sSeq (sPar 5 6 (aCons (eCall k_worth (aCons (e2 fIx (eVar 0) (eC (.int 1))) (aCons (eVar 1) (aCons (eVar 2) (aNil))))) (aCons (eCall k_worth (aCons (e2 fIx (eVar 0) (eC (.int 2))) (aCons (eVar 1) (aCons (eVar 2) (aNil))))) (aNil)))) (sSeq (sIf (tOf (e2 fEq (eVar 3) (eC (.str "sum")))) (sRet (e2 fAdd (eVar 5) (eVar 6))) (sNil)) (sSeq (sIf (tOf (e2 fEq (eVar 3) (eC (.str "less")))) (sRet (e2 fSub (eVar 5) (eVar 6))) (sNil)) (sRet (eIf (tOf (e2 fEq (eVar 3) (eC (.str "least")))) (eCB (fn2 gMin2) (aCons (eVar 5) (aCons (eVar 6) (aNil)))) (eCB (fn2 gMax2) (aCons (eVar 5) (aCons (eVar 6) (aNil))))))))))))))))
noncomputable def cc_worth : Nat → Con
  | 0 => fun _ _ => none
  | n + 1 => den 3 7 0 (b_worth (cc_worth n))
theorem CV_figure {S : Sto} {h n : Nat} {Q : D → Sto → Prop} (H : HD n S h) (hn : n + 3 ≤ 1000000) (q : ∀ (f : Int) S', -1000 ≤ f → f ≤ 1000 → St h (n + 3) S S' → Q (.int f) S') : CV c_figure [.ref h] S Q := by
  have hlt := H.lt
  refine CV_hand (h := h) (n := n + 3) hlt rfl ?_
  unfold b_figure
  (simp_arith [])
  refine ⟨rfl, ?_⟩
  refine CV_take H (by omega) (by decide) (by decide) fun r1 S1 a1 a2 t1 => ?_
  (simp_arith [])
  refine CV_take t1.hd (by omega) (by decide) (by decide) fun r2 S2 b1 b2 t2 => ?_
  (simp_arith [])
  refine ⟨rfl, rfl, ?_⟩
  refine CV_of t2.hd (by omega) (.inr (.inl rfl)) (by simp) (by simp) ?_ fun d S3 hd t3 => ?_
  · intro d hd
    simp only [List.cons_append, List.nil_append, List.mem_cons, List.not_mem_nil, or_false] at hd
    rcases hd with rfl | rfl | rfl | rfl | rfl | rfl | rfl | rfl | rfl | rfl | rfl | rfl <;> rfl
  have hd2 : ∃ f : Int, d = .int f ∧ -1000 ≤ f ∧ f ≤ 1000 := by
    simp only [List.cons_append, List.nil_append, List.mem_cons, List.not_mem_nil, or_false] at hd
    rcases hd with rfl | rfl | rfl | rfl | rfl | rfl | rfl | rfl | rfl | rfl | rfl | rfl <;> exact ⟨_, rfl, by omega, by omega⟩
  obtain ⟨f, rfl, f0, f1⟩ := hd2
  have t := t1.trans (t2.trans t3)
  exact ⟨t.hd, t.up, .inl ⟨rfl, fun S' hS => q f S' f0 f1 hS⟩⟩
theorem CV_shares {S : Sto} {h n : Nat} {many : Int} {Q : D → Sto → Prop} (H : HD n S h) (hn : n + 13 ≤ 1000000) (hm : many = 2 ∨ many = 3) (q : ∀ (ns : List Int) S', (ns.length : Int) = many → (∀ k, k ∈ ns → 0 ≤ k ∧ k ≤ 10 ^ 12 + 8) → (∃ k, k ∈ ns ∧ k ≠ 0) → St h (n + 13) S S' → Q (.tup (ns.map D.int)) S') : CV c_shares [.ref h, .int many] S Q := by
  have hlt := H.lt
  refine CV_hand (h := h) (n := n + 13) hlt rfl ?_
  unfold b_shares
  (simp_arith [])
  refine ⟨rfl, rg_ok (by omega) (by omega), ?_⟩
  refine SV_forI (fun r e S' => ∃ (ns : List Int) (x y : Option D), (r.length : Int) + ns.length = many ∧ S'[S.length]? = some (.lst (ns.map D.int)) ∧ Up h S S' ∧ HD (n + 4 * ns.length) S' h ∧ (∀ k, k ∈ ns → 0 ≤ k ∧ k ≤ 10 ^ 12 + 8) ∧ e = [some (.ref h), some (.int many), some (.ref S.length), x, y]) ⟨[], none, none, by rw [len_rgD]; simp; omega, by simp, .app, H.app.mono (by omega), (fun k hk => nomatch hk), rfl⟩ ?_ ?_
  · rintro d r e S' K ⟨ns, x, y, h1, h2, h3, h4, h5, rfl⟩ hK
    have hne : S.length ≠ h := by omega
    rw [List.length_cons] at h1
    (simp_arith [])
    refine CV_take h4 (by omega) (by decide) (by decide) fun r1 S1 a1 a2 t1 => ?_
    refine CV_take t1.hd (by omega) (by decide) (by decide) fun r2 S2 b1 b2 t2 => ?_
    refine ⟨rfl, CV_take t2.hd (by omega) (by decide) (by decide) fun r3 S3 c1 c2 t3 => ?_⟩
    (simp_arith [])
    refine ⟨rfl, CV_of t3.hd (by omega) (.inr (.inl rfl)) (by simp) (by simp) ?_ fun d S4 hd t4 => ?_⟩
    · intro d hd
      simp only [List.mem_cons, List.not_mem_nil, or_false] at hd
      rcases hd with rfl | rfl | rfl | rfl | rfl | rfl | rfl <;> rfl
    have hd2 : ∃ f : Int, d = .int f ∧ 0 ≤ f ∧ f ≤ 10 ^ 12 + 8 := by
      simp only [List.mem_cons, List.not_mem_nil, or_false] at hd
      have e10 : (10 : Int) ^ Int.toNat 12 = 10 ^ 12 := rfl
      rw [e10] at hd
      rcases hd with rfl | rfl | rfl | rfl | rfl | rfl | rfl <;> exact ⟨_, rfl, by omega, by omega⟩
    obtain ⟨f, rfl, f0, f1⟩ := hd2
    have b4 := t4.box hne (t3.box hne (t2.box hne (t1.box hne h2)))
    have u4 : Up h S S4 := h3.trans (t1.up.trans (t2.up.trans (t3.up.trans t4.up)))
    refine ⟨_, box_of b4, ex_append.mpr ⟨sz_le (by simp; omega), (fun n hn => nomatch hn), hK _ _ ⟨ns ++ [f], _, _, by simp; omega, ?_, u4.setNew (Nat.le_refl _), (t4.hd.setNe hne).mono (by simp; omega), fun k hk => ?_, rfl⟩⟩⟩
    · rw [List.map_append]
      exact List.getElem?_set_self (List.getElem?_eq_some_iff.mp b4).1
    · rcases List.mem_append.mp hk with hk | hk
      · exact h5 k hk
      · simp only [List.mem_cons, List.not_mem_nil, or_false] at hk
        subst hk
        exact ⟨f0, f1⟩
  · rintro e S' ⟨ns, x, y, h1, h2, h3, h4, h5, rfl⟩
    have hne : S.length ≠ h := by omega
    have h1 : (0 : Int) + ns.length = many := h1
    have l0 : 0 < ns.length := by omega
    obtain ⟨m1, m2⟩ := maxL_mem l0
    have bx := box_of h2
    (simp_arith [bx, r_maxX bx l0])
    have fin : ∀ (ms : List Int) (S2 : Sto), S2[S.length]? = some (.lst (ms.map D.int)) → (ms.length : Int) = many → (∀ k, k ∈ ms → 0 ≤ k ∧ k ≤ 10 ^ 12 + 8) → (∃ k, k ∈ ms ∧ k ≠ 0) → Up h S S2 → HD (n + 13) S2 h → CV c_llowest [.ref S.length] S2 fun x S1 => RtH h (n + 13) S Q (Out.rt x S1) := by
      intro ms S2 g1 g2 g3 g4 g5 g6
      refine CV_llowest (box_of g1) (fun k hk => ⟨(g3 k hk).1, by have := (g3 k hk).2; omega⟩) g4 (by omega) ?_
      obtain ⟨f1, f2, f3⟩ := llowest_facts (k := 10 ^ 12 + 8) g3 g4
      exact ⟨g6, g5, .inl ⟨bareL_ints _, fun S'' hS => q _ S'' (by rw [f1]; exact g2) f2 f3 hS⟩⟩
    split
    · rename_i hz
      refine CV_take h4 (by omega) (by omega) (by omega) fun r1 S1 a1 a2 t1 => ?_
      have b1 := t1.box hne h2
      have i1 : ixN (ns.map D.int).length r1 = some r1.toNat := ixN_in a1 (by simp; omega)
      (simp_arith [box_of b1, i1])
      have hi : r1.toNat < ns.length := by omega
      refine fin (ns.set r1.toNat 1) _ ?_ (by simp; omega) (fun k hk => ?_) ⟨1, (List.mem_iff_getElem?.mpr ⟨r1.toNat, List.getElem?_set_self hi⟩), by decide⟩ ((h3.trans t1.up).setNew (Nat.le_refl _)) ((t1.hd.setNe hne).mono (by omega))
      · rw [List.getElem?_set_self (List.getElem?_eq_some_iff.mp b1).1, List.map_set]
      · rcases List.mem_or_eq_of_mem_set hk with hk | rfl
        · exact h5 k hk
        · decide
    · rename_i hz
      exact fin ns S' h2 (by omega) h5 ⟨_, m1, hz⟩ h3 (h4.mono (by omega))
theorem CV_registers {S : Sto} {h n : Nat} {Q : D → Sto → Prop} (H : HD n S h) (hn : n + 12 ≤ 1000000) (q : ∀ (rs : List Int) S', rs.length = 4 → (∀ r, r ∈ rs → -1000 ≤ r ∧ r ≤ 1000) → St h (n + 12) S S' → Q (.tup (rs.map D.int)) S') : CV c_registers [.ref h] S Q := by
  have hlt := H.lt
  refine CV_hand (h := h) (n := n + 12) hlt rfl ?_
  unfold b_registers
  (simp_arith [])
  refine ⟨rg_ok (by decide) (by decide), ?_⟩
  refine (LV_all (fun k S' => St h (n + 3 * (4 - k)) S S' ∧ k ≤ 4) (fun y => ∃ f : Int, y = .int f ∧ -1000 ≤ f ∧ f ≤ 1000) ⟨(St.refl H).mono (Nat.le_add_right _ _), by rw [len_rgD]; decide⟩ ?_).lc ?_
  · rintro d k S2 K hd ⟨t2, hk⟩ hK
    (simp_arith [])
    exact CV_figure t2.hd (by omega) fun f S3 f0 f1 t3 => hK _ _ (fun n hn => nomatch hn) ⟨f, rfl, f0, f1⟩ ⟨(t2.trans t3).mono (by omega), by omega⟩
  · rintro out S2 ⟨hl, hp, t2, _⟩
    rw [len_rgD] at hl
    refine ⟨sz_le (by simp at hl; omega), ?_⟩
    have ex : ∀ out : List D, (∀ y, y ∈ out → ∃ f : Int, y = .int f ∧ -1000 ≤ f ∧ f ≤ 1000) → ∃ rs : List Int, out = rs.map D.int ∧ ∀ r, r ∈ rs → -1000 ≤ r ∧ r ≤ 1000 := by
      intro out
      induction out with
      | nil => exact fun _ => ⟨[], rfl, fun p hp => nomatch hp⟩
      | cons y out ih =>
        intro hp
        obtain ⟨p, rfl, hp1⟩ := hp y (List.mem_cons_self ..)
        obtain ⟨rows, rfl, hr⟩ := ih fun y hy => hp y (List.mem_cons_of_mem _ hy)
        exact ⟨p :: rows, rfl, fun p' hp' => by rcases List.mem_cons.mp hp' with rfl | z; exact hp1; exact hr p' z⟩
    obtain ⟨rs, rfl, hr⟩ := ex out hp
    (simp_arith [])
    exact ⟨t2.hd.mono (by omega), t2.up, .inl ⟨bareL_ints rs, fun S' hS => q rs S' (by simpa using hl) hr hS⟩⟩
/-! expressions -/
inductive Xp where
  | fig (n : Int)
  | reg (i : Nat)
  | shr (i : Nat)
  | tim (n : Int) (a : Xp)
  | byr (i : Nat) (a : Xp)
  | whn (i : Nat) (f : Int) (a b : Xp)
  | whr (i : Nat) (f : Int) (a b : Xp)
  | sum (a b : Xp)
  | les (a b : Xp)
  | lst (a b : Xp)
  | mst (a b : Xp)
def exD : Xp → D
  | .fig n => .tup [.str "fig", .int n]
  | .reg i => .tup [.str "reg", .int i]
  | .shr i => .tup [.str "share", .int i]
  | .tim n a => .tup [.str "times", .int n, exD a]
  | .byr i a => .tup [.str "by", .int i, exD a]
  | .whn i f a b => .tup [.str "when", .int i, .int f, exD a, exD b]
  | .whr i f a b => .tup [.str "where", .int i, .int f, exD a, exD b]
  | .sum a b => .tup [.str "sum", exD a, exD b]
  | .les a b => .tup [.str "less", exD a, exD b]
  | .lst a b => .tup [.str "least", exD a, exD b]
  | .mst a b => .tup [.str "most", exD a, exD b]
def exOk (many : Nat) : Xp → Prop
  | .fig n => -1000 ≤ n ∧ n ≤ 1000
  | .reg i => i < 4
  | .shr i => i < many
  | .tim n a => -9 ≤ n ∧ n ≤ 9 ∧ exOk many a
  | .byr i a => i < 4 ∧ exOk many a
  | .whn i f a b => i < 4 ∧ -1000 ≤ f ∧ f ≤ 1000 ∧ exOk many a ∧ exOk many b
  | .whr i f a b => i < many ∧ 1 ≤ f ∧ f ≤ 1000 ∧ exOk many a ∧ exOk many b
  | .sum a b => exOk many a ∧ exOk many b
  | .les a b => exOk many a ∧ exOk many b
  | .lst a b => exOk many a ∧ exOk many b
  | .mst a b => exOk many a ∧ exOk many b
def lev : Xp → Nat
  | .fig _ => 0
  | .reg _ => 0
  | .shr _ => 0
  | .tim _ a => lev a + 1
  | .byr _ a => lev a + 1
  | .whn _ _ a b => max (lev a) (lev b) + 1
  | .whr _ _ a b => max (lev a) (lev b) + 1
  | .sum a b => max (lev a) (lev b) + 1
  | .les a b => max (lev a) (lev b) + 1
  | .lst a b => max (lev a) (lev b) + 1
  | .mst a b => max (lev a) (lev b) + 1
theorem exD_bare : ∀ e : Xp, bare (exD e) = true := by
  intro e
  induction e <;> simp_all [exD, bare, bareL]
theorem CV_leaf {S : Sto} {h n : Nat} {many : Nat} {Q : D → Sto → Prop} (H : HD n S h) (hn : n + 4 ≤ 1000000) (hm : 0 < many) (hm2 : many < 1000) (q : ∀ (e : Xp) S', exOk many e → lev e = 0 → St h (n + 4) S S' → Q (exD e) S') : CV c_leaf [.ref h, .int many] S Q := by
  have hlt := H.lt
  refine CV_hand (h := h) (n := n + 4) hlt rfl ?_
  unfold b_leaf
  (simp_arith [])
  refine CV_take H (by omega) (by decide) (by decide) fun r1 S1 a1 a2 t1 => ?_
  (simp_arith [])
  split
  · refine CV_take t1.hd (by omega) (by decide) (by decide) fun r2 S2 b1 b2 t2 => ?_
    have t := t1.trans t2
    refine ⟨rfl, t.hd.mono (by omega), t.up, .inl ⟨rfl, fun S' hS => ?_⟩⟩
    have := q (.reg r2.toNat) S' (by show r2.toNat < 4; omega) rfl hS
    unfold exD at this
    rw [show ((r2.toNat : Nat) : Int) = r2 by omega] at this
    exact this
  · split
    · refine CV_figure t1.hd (by omega) fun f S2 f0 f1 t2 => ?_
      have t := t1.trans t2
      exact ⟨rfl, t.hd.mono (by omega), t.up, .inl ⟨rfl, fun S' hS => q (.fig f) S' ⟨f0, f1⟩ rfl hS⟩⟩
    · refine CV_take t1.hd (by omega) (by omega) (by omega) fun r2 S2 b1 b2 t2 => ?_
      have t := t1.trans t2
      refine ⟨rfl, t.hd.mono (by omega), t.up, .inl ⟨rfl, fun S' hS => ?_⟩⟩
      have := q (.shr r2.toNat) S' (by show r2.toNat < many; omega) rfl hS
      unfold exD at this
      rw [show ((r2.toNat : Nat) : Int) = r2 by omega] at this
      exact this
end Pv
set_option Elab.async false
set_option linter.all false
set_option maxRecDepth 100000
set_option maxHeartbeats 0
namespace Pv
open PySem PySem.Spec PyProof.Rows L2
/-! worths -/
theorem getD_at {ns : List Int} {i : Nat} (hi : i < ns.length) : atI (ns.map D.int) (i : Int) = some (.int (ns.getD i 0)) := by
  rw [at_nat, List.getElem?_map, List.getD_eq_getElem?_getD, List.getElem?_eq_getElem hi]
  rfl
theorem getD_mem {ns : List Int} {i : Nat} (hi : i < ns.length) : ns.getD i 0 ∈ ns := by
  rw [List.getD_eq_getElem?_getD, List.getElem?_eq_getElem hi]
  exact List.getElem_mem hi
theorem sum_pos_mem : ∀ ns : List Int, (∀ n, n ∈ ns → 0 ≤ n) → 0 ≤ ns.sum ∧ ∀ n, n ∈ ns → n ≤ ns.sum
  | [], _ => ⟨by simp, fun n h => nomatch h⟩
  | m :: ns, h => by
    obtain ⟨h1, h2⟩ := sum_pos_mem ns fun n hn => h n (List.mem_cons_of_mem _ hn)
    have h3 := h m (List.mem_cons_self ..)
    rw [List.sum_cons]
    refine ⟨by omega, fun n hn => ?_⟩
    rcases List.mem_cons.mp hn with rfl | hn
    · omega
    · have := h2 n hn
      omega
def wv (rs sh : List Int) : Xp → Int
  | .fig n => n * sh.sum
  | .reg i => rs.getD i 0 * sh.sum
  | .shr i => 1000 * sh.getD i 0
  | .tim n a => n * wv rs sh a
  | .byr i a => rs.getD i 0 * wv rs sh a
  | .whn i f a b => if rs.getD i 0 < f then wv rs sh a else wv rs sh b
  | .whr i f a b => if 1000 * sh.getD i 0 < f * sh.sum then wv rs sh a else wv rs sh b
  | .sum a b => wv rs sh a + wv rs sh b
  | .les a b => wv rs sh a - wv rs sh b
  | .lst a b => if wv rs sh b < wv rs sh a then wv rs sh b else wv rs sh a
  | .mst a b => if wv rs sh b > wv rs sh a then wv rs sh b else wv rs sh a
structure Ctx (many : Nat) (rs sh : List Int) : Prop where
  rl : rs.length = 4
  rb : ∀ r, r ∈ rs → -1000 ≤ r ∧ r ≤ 1000
  sl : sh.length = many
  sp : ∀ s, s ∈ sh → 0 ≤ s
  st : sh.sum ≤ 10 ^ 20
def Bw (l : Nat) : Nat := 1000 * 10 ^ 20 * 2000 ^ l
theorem Bw_succ (l : Nat) : Bw (l + 1) = 2000 * Bw l := by unfold Bw; generalize 1000 * 10 ^ 20 = k; rw [Nat.pow_succ', Nat.mul_left_comm]
theorem Bw_mono {l k : Nat} (h : l ≤ k) : Bw l ≤ Bw k := Nat.mul_le_mul_left _ (Nat.pow_le_pow_right (by decide) h)
section
variable {many : Nat} {rs sh : List Int}
theorem Ctx.r (c : Ctx many rs sh) {i : Nat} (hi : i < 4) : -1000 ≤ rs.getD i 0 ∧ rs.getD i 0 ≤ 1000 := c.rb _ (getD_mem (by rw [c.rl]; exact hi))
theorem Ctx.s (c : Ctx many rs sh) {i : Nat} (hi : i < many) : 0 ≤ sh.getD i 0 ∧ sh.getD i 0 ≤ sh.sum := by
  have h := getD_mem (ns := sh) (i := i) (by rw [c.sl]; exact hi)
  exact ⟨c.sp _ h, (sum_pos_mem sh c.sp).2 _ h⟩
theorem Ctx.tot (c : Ctx many rs sh) : 0 ≤ sh.sum ∧ sh.sum ≤ 10 ^ 20 := ⟨(sum_pos_mem sh c.sp).1, c.st⟩
theorem wv_bound (c : Ctx many rs sh) : ∀ e : Xp, exOk many e → (wv rs sh e).natAbs ≤ Bw (lev e) := by
  have t := c.tot
  have mul : ∀ {n x : Int} {l : Nat}, n.natAbs ≤ 1000 → x.natAbs ≤ Bw l → (n * x).natAbs ≤ Bw (l + 1) := fun {n x l} h1 h2 => by
    rw [Int.natAbs_mul, Bw_succ]
    have := Nat.mul_le_mul h1 h2
    omega
  have b0 : Bw 0 = 1000 * 10 ^ 20 := rfl
  intro e
  induction e with
  | fig n =>
    intro h
    obtain ⟨h1, h2⟩ := h
    show (n * sh.sum).natAbs ≤ Bw 0
    rw [Int.natAbs_mul, b0]
    exact Nat.mul_le_mul (by omega) (by omega)
  | reg i =>
    intro h
    have := c.r h
    show (rs.getD i 0 * sh.sum).natAbs ≤ Bw 0
    rw [Int.natAbs_mul, b0]
    exact Nat.mul_le_mul (by omega) (by omega)
  | shr i =>
    intro h
    have := c.s h
    show (1000 * sh.getD i 0).natAbs ≤ Bw 0
    rw [Int.natAbs_mul, b0]
    exact Nat.mul_le_mul (by omega) (by omega)
  | tim n a ih =>
    intro h
    obtain ⟨h1, h2, h3⟩ := h
    exact mul (by omega) (ih h3)
  | byr i a ih =>
    intro h
    obtain ⟨h1, h3⟩ := h
    have := c.r h1
    exact mul (by omega) (ih h3)
  | whn i f a b iha ihb =>
    intro h
    obtain ⟨h1, h2, h3, h4, h5⟩ := h
    show (if rs.getD i 0 < f then wv rs sh a else wv rs sh b).natAbs ≤ Bw (max (lev a) (lev b) + 1)
    split
    · exact Nat.le_trans (iha h4) (Bw_mono (by omega))
    · exact Nat.le_trans (ihb h5) (Bw_mono (by omega))
  | whr i f a b iha ihb =>
    intro h
    obtain ⟨h1, h2, h3, h4, h5⟩ := h
    show (if 1000 * sh.getD i 0 < f * sh.sum then wv rs sh a else wv rs sh b).natAbs ≤ Bw (max (lev a) (lev b) + 1)
    split
    · exact Nat.le_trans (iha h4) (Bw_mono (by omega))
    · exact Nat.le_trans (ihb h5) (Bw_mono (by omega))
  | sum a b iha ihb =>
    intro h
    have h1 := Nat.le_trans (iha h.1) (Bw_mono (Nat.le_max_left (lev a) (lev b)))
    have h2 := Nat.le_trans (ihb h.2) (Bw_mono (Nat.le_max_right (lev a) (lev b)))
    show (wv rs sh a + wv rs sh b).natAbs ≤ Bw (max (lev a) (lev b) + 1)
    rw [Bw_succ]
    omega
  | les a b iha ihb =>
    intro h
    have h1 := Nat.le_trans (iha h.1) (Bw_mono (Nat.le_max_left (lev a) (lev b)))
    have h2 := Nat.le_trans (ihb h.2) (Bw_mono (Nat.le_max_right (lev a) (lev b)))
    show (wv rs sh a - wv rs sh b).natAbs ≤ Bw (max (lev a) (lev b) + 1)
    rw [Bw_succ]
    omega
  | lst a b iha ihb =>
    intro h
    show (if wv rs sh b < wv rs sh a then wv rs sh b else wv rs sh a).natAbs ≤ Bw (max (lev a) (lev b) + 1)
    split
    · exact Nat.le_trans (ihb h.2) (Bw_mono (by omega))
    · exact Nat.le_trans (iha h.1) (Bw_mono (by omega))
  | mst a b iha ihb =>
    intro h
    show (if wv rs sh b > wv rs sh a then wv rs sh b else wv rs sh a).natAbs ≤ Bw (max (lev a) (lev b) + 1)
    split
    · exact Nat.le_trans (ihb h.2) (Bw_mono (by omega))
    · exact Nat.le_trans (iha h.1) (Bw_mono (by omega))
theorem wv_sm (c : Ctx many rs sh) {e : Xp} (h : exOk many e) (hl : lev e ≤ 20) : sm (wv rs sh e) := Nat.lt_of_le_of_lt (Nat.le_trans (wv_bound c e h) (Bw_mono hl)) (by decide +kernel)
theorem sm_k {a : Int} (h : a.natAbs ≤ 10 ^ 30) : sm a := sm_le (10 ^ 30) h
theorem CV_worth (c : Ctx many rs sh) : ∀ (e : Xp) {n : Nat} {S : Sto} {Q : D → Sto → Prop}, exOk many e → lev e < n → lev e ≤ 20 → Q (.int (wv rs sh e)) S → CV (cc_worth n) [exD e, .tup (rs.map D.int), .tup (sh.map D.int)] S Q := by
  have t := c.tot
  have gr : ∀ {i : Nat}, i < 4 → atI (rs.map D.int) (i : Int) = some (.int (rs.getD i 0)) := fun {i} h => getD_at (by rw [c.rl]; exact h)
  have gs : ∀ {i : Nat}, i < many → atI (sh.map D.int) (i : Int) = some (.int (sh.getD i 0)) := fun {i} h => getD_at (by rw [c.sl]; exact h)
  have at4 : ∀ {u v w z y : D}, atI [u, v, w, z, y] 4 = some y := rfl
  intro e
  induction e with
  | fig m =>
    intro n S Q h hl hl2 q
    obtain ⟨h1, h2⟩ := h
    cases n with
    | zero => omega
    | succ n =>
      refine CV_plain rfl ?_
      unfold b_worth exD
      (simp_arith [Wd])
      exact ⟨sm_mul (sm_k (by omega)) (sm_k (by omega)), RtP_same rfl q⟩
  | reg i =>
    intro n S Q h hl hl2 q
    have h1 := c.r h
    cases n with
    | zero => omega
    | succ n =>
      refine CV_plain rfl ?_
      unfold b_worth exD
      (simp_arith [Wd, gr h])
      exact ⟨sm_mul (sm_k (by omega)) (sm_k (by omega)), RtP_same rfl q⟩
  | shr i =>
    intro n S Q h hl hl2 q
    have h1 := c.s h
    cases n with
    | zero => omega
    | succ n =>
      refine CV_plain rfl ?_
      unfold b_worth exD
      (simp_arith [Wd, gs h])
      exact ⟨sm_mul (sm_k (by omega)) (sm_k (by omega)), RtP_same rfl q⟩
  | tim m a ih =>
    intro n S Q h hl hl2 q
    obtain ⟨h1, h2, h3⟩ := h
    have l1 : lev a + 1 < n := hl
    have l2 : lev a + 1 ≤ 20 := hl2
    cases n with
    | zero => omega
    | succ n =>
      refine CV_plain rfl ?_
      unfold b_worth exD
      (simp_arith [Wd])
      refine ih h3 (by omega) (by omega) ?_
      (simp_arith [])
      exact ⟨sm_mul (sm_k (by omega)) (wv_sm c h3 (by omega)), RtP_same rfl q⟩
  | byr i a ih =>
    intro n S Q h hl hl2 q
    obtain ⟨h1, h3⟩ := h
    have l1 : lev a + 1 < n := hl
    have l2 : lev a + 1 ≤ 20 := hl2
    have r1 := c.r h1
    cases n with
    | zero => omega
    | succ n =>
      refine CV_plain rfl ?_
      unfold b_worth exD
      (simp_arith [Wd, gr h1])
      refine ih h3 (by omega) (by omega) ?_
      (simp_arith [])
      exact ⟨sm_mul (sm_k (by omega)) (wv_sm c h3 (by omega)), RtP_same rfl q⟩
  | whn i f a b iha ihb =>
    intro n S Q h hl hl2 q
    obtain ⟨h1, h2, h3, h4, h5⟩ := h
    have l1 : max (lev a) (lev b) + 1 < n := hl
    have l2 : max (lev a) (lev b) + 1 ≤ 20 := hl2
    have q : Q (.int (if rs.getD i 0 < f then wv rs sh a else wv rs sh b)) S := q
    cases n with
    | zero => omega
    | succ n =>
      refine CV_plain rfl ?_
      unfold b_worth exD
      (simp_arith [Wd, gr h1, at4])
      split
      · rename_i hc
        rw [if_pos hc] at q
        exact iha h4 (by omega) (by omega) (RtP_same rfl q)
      · rename_i hc
        rw [if_neg hc] at q
        exact ihb h5 (by omega) (by omega) (RtP_same rfl q)
  | whr i f a b iha ihb =>
    intro n S Q h hl hl2 q
    obtain ⟨h1, h2, h3, h4, h5⟩ := h
    have l1 : max (lev a) (lev b) + 1 < n := hl
    have l2 : max (lev a) (lev b) + 1 ≤ 20 := hl2
    have r1 := c.s h1
    have q : Q (.int (if 1000 * sh.getD i 0 < f * sh.sum then wv rs sh a else wv rs sh b)) S := q
    cases n with
    | zero => omega
    | succ n =>
      refine CV_plain rfl ?_
      unfold b_worth exD
      (simp_arith [Wd, gs h1, at4])
      refine ⟨sm_mul (sm_k (by omega)) (sm_k (by omega)), sm_mul (sm_k (by omega)) (sm_k (by omega)), ?_⟩
      split
      · rename_i hc
        rw [if_pos hc] at q
        exact iha h4 (by omega) (by omega) (RtP_same rfl q)
      · rename_i hc
        rw [if_neg hc] at q
        exact ihb h5 (by omega) (by omega) (RtP_same rfl q)
  | sum a b iha ihb =>
    intro n S Q h hl hl2 q
    have l1 : max (lev a) (lev b) + 1 < n := hl
    have l2 : max (lev a) (lev b) + 1 ≤ 20 := hl2
    cases n with
    | zero => omega
    | succ n =>
      refine CV_plain rfl ?_
      unfold b_worth exD
      (simp_arith [Wd])
      refine iha h.1 (by omega) (by omega) (ihb h.2 (by omega) (by omega) ?_)
      (simp_arith [Wd])
      exact RtP_same rfl q
  | les a b iha ihb =>
    intro n S Q h hl hl2 q
    have l1 : max (lev a) (lev b) + 1 < n := hl
    have l2 : max (lev a) (lev b) + 1 ≤ 20 := hl2
    cases n with
    | zero => omega
    | succ n =>
      refine CV_plain rfl ?_
      unfold b_worth exD
      (simp_arith [Wd])
      refine iha h.1 (by omega) (by omega) (ihb h.2 (by omega) (by omega) ?_)
      (simp_arith [Wd])
      exact RtP_same rfl q
  | lst a b iha ihb =>
    intro n S Q h hl hl2 q
    have l1 : max (lev a) (lev b) + 1 < n := hl
    have l2 : max (lev a) (lev b) + 1 ≤ 20 := hl2
    cases n with
    | zero => omega
    | succ n =>
      refine CV_plain rfl ?_
      unfold b_worth exD
      (simp_arith [Wd])
      refine iha h.1 (by omega) (by omega) (ihb h.2 (by omega) (by omega) ?_)
      (simp_arith [Wd])
      exact RtP_same rfl q
  | mst a b iha ihb =>
    intro n S Q h hl hl2 q
    have l1 : max (lev a) (lev b) + 1 < n := hl
    have l2 : max (lev a) (lev b) + 1 ≤ 20 := hl2
    cases n with
    | zero => omega
    | succ n =>
      refine CV_plain rfl ?_
      unfold b_worth exD
      (simp_arith [Wd])
      refine iha h.1 (by omega) (by omega) (ihb h.2 (by omega) (by omega) ?_)
      (simp_arith [Wd])
      exact RtP_same rfl q
end
end Pv
set_option Elab.async false
set_option linter.all false
set_option maxRecDepth 100000
namespace Pv
open PySem PySem.Spec PyProof.Rows L2
/-! expressions as data: short, not deep -/
def Cn : Nat → Nat
  | 0 => 4
  | l + 1 => 2 * Cn l + 8
theorem Cn_mono {l k : Nat} (h : l ≤ k) : Cn l ≤ Cn k := by
  induction h with
  | refl => exact Nat.le_refl _
  | step _ ih => rename_i m _; exact Nat.le_trans ih (by show Cn m ≤ 2 * Cn m + 8; omega)
theorem sh_str {x : Str} {k : Nat} (h : (PyData.strOk x && (x.cps.toList.all fun c => decide (c < 16 ^ 8)) && decide (x.cps.size ≤ 4 * k)) = true) : shortB k (.str x) = true := h
theorem ex_data {many : Nat} (hm : many ≤ 1000) : ∀ e : Xp, exOk many e → shortB 13 (exD e) = true ∧ dep (exD e) = lev e + 1 ∧ cnt (exD e) ≤ Cn (lev e) := by
  have w1 : shortB 13 (.str "fig") = true := by decide +kernel
  have w2 : shortB 13 (.str "reg") = true := by decide +kernel
  have w3 : shortB 13 (.str "share") = true := by decide +kernel
  have w4 : shortB 13 (.str "times") = true := by decide +kernel
  have w5 : shortB 13 (.str "by") = true := by decide +kernel
  have w6 : shortB 13 (.str "when") = true := by decide +kernel
  have w7 : shortB 13 (.str "where") = true := by decide +kernel
  have w8 : shortB 13 (.str "sum") = true := by decide +kernel
  have w9 : shortB 13 (.str "less") = true := by decide +kernel
  have w10 : shortB 13 (.str "least") = true := by decide +kernel
  have w11 : shortB 13 (.str "most") = true := by decide +kernel
  have wi : ∀ {z : Int}, z.natAbs ≤ 1000 → shortB 13 (.int z) = true := fun {z} h => decide_eq_true (by omega)
  have ws : ∀ {x : Str}, dep (.str x) = 0 ∧ cnt (.str x) = 1 := ⟨rfl, rfl⟩
  have wz : ∀ {x : Int}, dep (.int x) = 0 ∧ cnt (.int x) = 1 := ⟨rfl, rfl⟩
  have c0 : ∀ l, 4 ≤ Cn l := fun l => Cn_mono (Nat.zero_le l)
  intro e
  induction e with
  | fig n => intro h; obtain ⟨h1, h2⟩ := h; exact ⟨by show (shortB 13 (.str "fig") && (shortB 13 (.int n) && true)) = true; rw [w1, wi (by omega)]; rfl, rfl, Nat.le_refl _⟩
  | reg i => intro h; have h : i < 4 := h; exact ⟨by show (shortB 13 (.str "reg") && (shortB 13 (.int i) && true)) = true; rw [w2, wi (by omega)]; rfl, rfl, Nat.le_refl _⟩
  | shr i => intro h; have h : i < many := h; exact ⟨by show (shortB 13 (.str "share") && (shortB 13 (.int i) && true)) = true; rw [w3, wi (by omega)]; rfl, rfl, Nat.le_refl _⟩
  | tim n a ih =>
    intro h; obtain ⟨h1, h2, h3⟩ := h
    obtain ⟨a1, a2, a3⟩ := ih h3
    refine ⟨?_, ?_, ?_⟩
    · show (shortB 13 (.str "times") && (shortB 13 (.int n) && (shortB 13 (exD a) && true))) = true
      rw [w4, wi (by omega), a1]; rfl
    · show max 0 (max 0 (max (dep (exD a)) 0)) + 1 = lev a + 1 + 1
      omega
    · show 1 + 1 + (1 + 1 + (cnt (exD a) + 1 + 0)) ≤ 2 * Cn (lev a) + 8
      omega
  | byr i a ih =>
    intro h; obtain ⟨h1, h3⟩ := h
    obtain ⟨a1, a2, a3⟩ := ih h3
    refine ⟨?_, ?_, ?_⟩
    · show (shortB 13 (.str "by") && (shortB 13 (.int i) && (shortB 13 (exD a) && true))) = true
      rw [w5, wi (by omega), a1]; rfl
    · show max 0 (max 0 (max (dep (exD a)) 0)) + 1 = lev a + 1 + 1
      omega
    · show 1 + 1 + (1 + 1 + (cnt (exD a) + 1 + 0)) ≤ 2 * Cn (lev a) + 8
      omega
  | whn i f a b iha ihb =>
    intro h; obtain ⟨h1, h2, h3, h4, h5⟩ := h
    obtain ⟨a1, a2, a3⟩ := iha h4
    obtain ⟨b1, b2, b3⟩ := ihb h5
    have m1 := Cn_mono (Nat.le_max_left (lev a) (lev b))
    have m2 := Cn_mono (Nat.le_max_right (lev a) (lev b))
    refine ⟨?_, ?_, ?_⟩
    · show (shortB 13 (.str "when") && (shortB 13 (.int i) && (shortB 13 (.int f) && (shortB 13 (exD a) && (shortB 13 (exD b) && true))))) = true
      rw [w6, wi (by omega), wi (by omega), a1, b1]; rfl
    · show max 0 (max 0 (max 0 (max (dep (exD a)) (max (dep (exD b)) 0)))) + 1 = max (lev a) (lev b) + 1 + 1
      omega
    · show 1 + 1 + (1 + 1 + (1 + 1 + (cnt (exD a) + 1 + (cnt (exD b) + 1 + 0)))) ≤ 2 * Cn (max (lev a) (lev b)) + 8
      omega
  | whr i f a b iha ihb =>
    intro h; obtain ⟨h1, h2, h3, h4, h5⟩ := h
    obtain ⟨a1, a2, a3⟩ := iha h4
    obtain ⟨b1, b2, b3⟩ := ihb h5
    have m1 := Cn_mono (Nat.le_max_left (lev a) (lev b))
    have m2 := Cn_mono (Nat.le_max_right (lev a) (lev b))
    refine ⟨?_, ?_, ?_⟩
    · show (shortB 13 (.str "where") && (shortB 13 (.int i) && (shortB 13 (.int f) && (shortB 13 (exD a) && (shortB 13 (exD b) && true))))) = true
      rw [w7, wi (by omega), wi (by omega), a1, b1]; rfl
    · show max 0 (max 0 (max 0 (max (dep (exD a)) (max (dep (exD b)) 0)))) + 1 = max (lev a) (lev b) + 1 + 1
      omega
    · show 1 + 1 + (1 + 1 + (1 + 1 + (cnt (exD a) + 1 + (cnt (exD b) + 1 + 0)))) ≤ 2 * Cn (max (lev a) (lev b)) + 8
      omega
  | sum a b iha ihb =>
    intro h
    obtain ⟨a1, a2, a3⟩ := iha h.1
    obtain ⟨b1, b2, b3⟩ := ihb h.2
    have m1 := Cn_mono (Nat.le_max_left (lev a) (lev b))
    have m2 := Cn_mono (Nat.le_max_right (lev a) (lev b))
    refine ⟨?_, ?_, ?_⟩
    · show (shortB 13 (.str "sum") && (shortB 13 (exD a) && (shortB 13 (exD b) && true))) = true
      rw [w8, a1, b1]; rfl
    · show max 0 (max (dep (exD a)) (max (dep (exD b)) 0)) + 1 = max (lev a) (lev b) + 1 + 1
      omega
    · show 1 + 1 + (cnt (exD a) + 1 + (cnt (exD b) + 1 + 0)) ≤ 2 * Cn (max (lev a) (lev b)) + 8
      omega
  | les a b iha ihb =>
    intro h
    obtain ⟨a1, a2, a3⟩ := iha h.1
    obtain ⟨b1, b2, b3⟩ := ihb h.2
    have m1 := Cn_mono (Nat.le_max_left (lev a) (lev b))
    have m2 := Cn_mono (Nat.le_max_right (lev a) (lev b))
    refine ⟨?_, ?_, ?_⟩
    · show (shortB 13 (.str "less") && (shortB 13 (exD a) && (shortB 13 (exD b) && true))) = true
      rw [w9, a1, b1]; rfl
    · show max 0 (max (dep (exD a)) (max (dep (exD b)) 0)) + 1 = max (lev a) (lev b) + 1 + 1
      omega
    · show 1 + 1 + (cnt (exD a) + 1 + (cnt (exD b) + 1 + 0)) ≤ 2 * Cn (max (lev a) (lev b)) + 8
      omega
  | lst a b iha ihb =>
    intro h
    obtain ⟨a1, a2, a3⟩ := iha h.1
    obtain ⟨b1, b2, b3⟩ := ihb h.2
    have m1 := Cn_mono (Nat.le_max_left (lev a) (lev b))
    have m2 := Cn_mono (Nat.le_max_right (lev a) (lev b))
    refine ⟨?_, ?_, ?_⟩
    · show (shortB 13 (.str "least") && (shortB 13 (exD a) && (shortB 13 (exD b) && true))) = true
      rw [w10, a1, b1]; rfl
    · show max 0 (max (dep (exD a)) (max (dep (exD b)) 0)) + 1 = max (lev a) (lev b) + 1 + 1
      omega
    · show 1 + 1 + (cnt (exD a) + 1 + (cnt (exD b) + 1 + 0)) ≤ 2 * Cn (max (lev a) (lev b)) + 8
      omega
  | mst a b iha ihb =>
    intro h
    obtain ⟨a1, a2, a3⟩ := iha h.1
    obtain ⟨b1, b2, b3⟩ := ihb h.2
    have m1 := Cn_mono (Nat.le_max_left (lev a) (lev b))
    have m2 := Cn_mono (Nat.le_max_right (lev a) (lev b))
    refine ⟨?_, ?_, ?_⟩
    · show (shortB 13 (.str "most") && (shortB 13 (exD a) && (shortB 13 (exD b) && true))) = true
      rw [w11, a1, b1]; rfl
    · show max 0 (max (dep (exD a)) (max (dep (exD b)) 0)) + 1 = max (lev a) (lev b) + 1 + 1
      omega
    · show 1 + 1 + (cnt (exD a) + 1 + (cnt (exD b) + 1 + 0)) ≤ 2 * Cn (max (lev a) (lev b)) + 8
      omega
theorem shortL_iff {k : Nat} : ∀ {ds : List D}, shortL k ds = true ↔ ∀ d, d ∈ ds → shortB k d = true
  | [] => ⟨(fun _ d h => nomatch h), (fun _ => rfl)⟩
  | d :: ds => by simp [shortL, shortL_iff (ds := ds)]
theorem depL_le {k : Nat} : ∀ {ds : List D}, (∀ d, d ∈ ds → dep d ≤ k) → depL ds ≤ k
  | [], _ => Nat.zero_le _
  | d :: ds, h => by
    have h1 := h d (List.mem_cons_self ..)
    have h2 := depL_le fun x hx => h x (List.mem_cons_of_mem d hx)
    show max (dep d) (depL ds) ≤ k
    omega
theorem cntL_le {k : Nat} : ∀ {ds : List D}, (∀ d, d ∈ ds → cnt d ≤ k) → cntL ds ≤ ds.length * (k + 1)
  | [], _ => Nat.zero_le _
  | d :: ds, h => by
    have h1 := h d (List.mem_cons_self ..)
    have h2 := cntL_le fun x hx => h x (List.mem_cons_of_mem d hx)
    show cnt d + 1 + cntL ds ≤ (ds.length + 1) * (k + 1)
    rw [Nat.succ_mul]
    omega
/-- a list beside the empty one -/
theorem r_eq_nil {S : Sto} {ds : List D} (k : Nat) (h : shortL k ds = true) (h1 : depL ds ≤ 60) (hk : 0 < k := by decide) : fEq S (.lst ds) (.lst []) = some (.bl ds.isEmpty) := by
  have h2 := pdS_short (S := S) (d := .lst ds) hk h
  have h3 := shaped_short (d := .lst ds) hk h (by show depL ds + 1 ≤ 64; omega)
  have h4 := pdS_short (S := S) (d := .lst []) hk rfl
  show ((pdS S (.lst ds)).bind fun p => (pdS S (.lst [])).bind fun q => if (SeqAt.shaped p && SeqAt.shaped q) = true then some (D.bl (PyData.eqv p q)) else none) = _
  rw [h2, h4]
  show (if (SeqAt.shaped (pd (.lst ds)) && SeqAt.shaped (pd (.lst []))) = true then some (D.bl (PyData.eqv (pd (.lst ds)) (pd (.lst [])))) else none) = _
  rw [h3]
  cases ds <;> rfl
theorem r_ne_nil {S : Sto} {ds : List D} (k : Nat) (h : shortL k ds = true) (h1 : depL ds ≤ 60) (hk : 0 < k := by decide) : fNe S (.lst ds) (.lst []) = some (.bl (!ds.isEmpty)) := by
  unfold fNe
  rw [r_eq_nil k h h1 hk]
  rfl
def wordOf : Xp → Str
  | .fig _ => "fig"
  | .reg _ => "reg"
  | .shr _ => "share"
  | .tim _ _ => "times"
  | .byr _ _ => "by"
  | .whn _ _ _ _ => "when"
  | .whr _ _ _ _ => "where"
  | .sum _ _ => "sum"
  | .les _ _ => "less"
  | .lst _ _ => "least"
  | .mst _ _ => "most"
def tailD : Xp → List D
  | .fig n => [.int n]
  | .reg i => [.int i]
  | .shr i => [.int i]
  | .tim n a => [.int n, exD a]
  | .byr i a => [.int i, exD a]
  | .whn i f a b => [.int i, .int f, exD a, exD b]
  | .whr i f a b => [.int i, .int f, exD a, exD b]
  | .sum a b => [exD a, exD b]
  | .les a b => [exD a, exD b]
  | .lst a b => [exD a, exD b]
  | .mst a b => [exD a, exD b]
theorem ex_eq (e : Xp) : exD e = .tup (.str (wordOf e) :: tailD e) := by cases e <;> rfl
theorem ex_0 {S : Sto} (e : Xp) : fIx S (exD e) (.int 0) = some (.str (wordOf e)) := by rw [ex_eq, r_ixT, at_0]
theorem ex_tail {S : Sto} (e : Xp) : fSlT S (exD e) (some 1) none = some (.tup (tailD e)) := by
  rw [ex_eq, r_slT, cut_from (by decide)]
  rfl
def isTup : D → Bool
  | .tup _ => true
  | _ => false
def tc (ds : List D) : Nat := (ds.filter isTup).length
theorem tail_kids {many : Nat} (e : Xp) (h : exOk many e) : (∀ d, d ∈ tailD e → (∃ z, d = .int z) ∨ ∃ a, d = exD a ∧ exOk many a ∧ lev a + 1 ≤ lev e) ∧ tc (tailD e) ≤ 2 := by
  have it : ∀ a : Xp, isTup (exD a) = true := fun a => by rw [ex_eq]; rfl
  have f1 : ∀ {a : Xp} {r : List D}, tc (exD a :: r) = tc r + 1 := fun {a r} => by unfold tc; rw [List.filter_cons_of_pos (it a)]; rfl
  have f2 : ∀ {z : Int} {r : List D}, tc (.int z :: r) = tc r := fun {z r} => rfl
  have f0 : tc [] = 0 := rfl
  have k0 : ∀ {z : Int} {d : D}, d = .int z → (∃ z, d = .int z) ∨ ∃ a, d = exD a ∧ exOk many a ∧ lev a + 1 ≤ lev e := fun {z d} h => .inl ⟨z, h⟩
  cases e with
  | fig n => exact ⟨fun d hd => .inl ⟨n, by simpa [tailD] using hd⟩, Nat.zero_le _⟩
  | reg n => exact ⟨fun d hd => .inl ⟨n, by simpa [tailD] using hd⟩, Nat.zero_le _⟩
  | shr n => exact ⟨fun d hd => .inl ⟨n, by simpa [tailD] using hd⟩, Nat.zero_le _⟩
  | tim n a =>
    refine ⟨fun d hd => ?_, by simp only [tailD, f1, f2, f0]; decide⟩
    simp only [tailD, List.mem_cons, List.not_mem_nil, or_false] at hd
    rcases hd with rfl | rfl
    · exact .inl ⟨_, rfl⟩
    · exact .inr ⟨a, rfl, h.2.2, Nat.le_refl _⟩
  | byr n a =>
    refine ⟨fun d hd => ?_, by simp only [tailD, f1, f2, f0]; decide⟩
    simp only [tailD, List.mem_cons, List.not_mem_nil, or_false] at hd
    rcases hd with rfl | rfl
    · exact .inl ⟨_, rfl⟩
    · exact .inr ⟨a, rfl, h.2, Nat.le_refl _⟩
  | whn i f a b =>
    refine ⟨fun d hd => ?_, by simp only [tailD, f1, f2, f0]; decide⟩
    simp only [tailD, List.mem_cons, List.not_mem_nil, or_false] at hd
    rcases hd with rfl | rfl | rfl | rfl
    · exact .inl ⟨_, rfl⟩
    · exact .inl ⟨_, rfl⟩
    · exact .inr ⟨a, rfl, h.2.2.2.1, by show lev a + 1 ≤ max (lev a) (lev b) + 1; omega⟩
    · exact .inr ⟨b, rfl, h.2.2.2.2, by show lev b + 1 ≤ max (lev a) (lev b) + 1; omega⟩
  | whr i f a b =>
    refine ⟨fun d hd => ?_, by simp only [tailD, f1, f2, f0]; decide⟩
    simp only [tailD, List.mem_cons, List.not_mem_nil, or_false] at hd
    rcases hd with rfl | rfl | rfl | rfl
    · exact .inl ⟨_, rfl⟩
    · exact .inl ⟨_, rfl⟩
    · exact .inr ⟨a, rfl, h.2.2.2.1, by show lev a + 1 ≤ max (lev a) (lev b) + 1; omega⟩
    · exact .inr ⟨b, rfl, h.2.2.2.2, by show lev b + 1 ≤ max (lev a) (lev b) + 1; omega⟩
  | sum a b =>
    refine ⟨fun d hd => ?_, by simp only [tailD, f1, f2, f0]; decide⟩
    simp only [tailD, List.mem_cons, List.not_mem_nil, or_false] at hd
    rcases hd with rfl | rfl
    · exact .inr ⟨a, rfl, h.1, by show lev a + 1 ≤ max (lev a) (lev b) + 1; omega⟩
    · exact .inr ⟨b, rfl, h.2, by show lev b + 1 ≤ max (lev a) (lev b) + 1; omega⟩
  | les a b =>
    refine ⟨fun d hd => ?_, by simp only [tailD, f1, f2, f0]; decide⟩
    simp only [tailD, List.mem_cons, List.not_mem_nil, or_false] at hd
    rcases hd with rfl | rfl
    · exact .inr ⟨a, rfl, h.1, by show lev a + 1 ≤ max (lev a) (lev b) + 1; omega⟩
    · exact .inr ⟨b, rfl, h.2, by show lev b + 1 ≤ max (lev a) (lev b) + 1; omega⟩
  | lst a b =>
    refine ⟨fun d hd => ?_, by simp only [tailD, f1, f2, f0]; decide⟩
    simp only [tailD, List.mem_cons, List.not_mem_nil, or_false] at hd
    rcases hd with rfl | rfl
    · exact .inr ⟨a, rfl, h.1, by show lev a + 1 ≤ max (lev a) (lev b) + 1; omega⟩
    · exact .inr ⟨b, rfl, h.2, by show lev b + 1 ≤ max (lev a) (lev b) + 1; omega⟩
  | mst a b =>
    refine ⟨fun d hd => ?_, by simp only [tailD, f1, f2, f0]; decide⟩
    simp only [tailD, List.mem_cons, List.not_mem_nil, or_false] at hd
    rcases hd with rfl | rfl
    · exact .inr ⟨a, rfl, h.1, by show lev a + 1 ≤ max (lev a) (lev b) + 1; omega⟩
    · exact .inr ⟨b, rfl, h.2, by show lev b + 1 ≤ max (lev a) (lev b) + 1; omega⟩
theorem ex_extend {S : Sto} {ds es : List D} {P : D → List D → Prop} : (∃ v ds', hExtend S ds [.lst es] = some (v, ds') ∧ P v ds') ↔ szOk (ds.length + es.length) = true ∧ P .non (ds ++ es) := by
  constructor
  · rintro ⟨v, ds', h, p⟩
    obtain ⟨hz, h⟩ := ite_some (show (if szOk (ds.length + es.length) = true then some (D.non, ds ++ es) else none) = _ from h)
    cases h
    exact ⟨hz, p⟩
  · rintro ⟨hz, p⟩
    exact ⟨_, _, (if_pos hz : (if szOk (ds.length + es.length) = true then some (D.non, ds ++ es) else none) = _), p⟩
theorem set_last {S : Sto} {a b : Ob} : (S ++ [a]).set S.length b = S ++ [b] := by
  rw [List.set_append_right _ _ (Nat.le_refl _), Nat.sub_self]
  rfl
theorem box_last {S : Sto} {ds : List D} : boxAt (S ++ [.lst ds]) S.length = some ds := box_of (by simp)
theorem exs_bare (es : List Xp) : bareL (es.map exD) = true := bareL_iff.mpr fun d hd => by
  obtain ⟨e, _, rfl⟩ := List.mem_map.mp hd
  exact exD_bare e
theorem isT_ex {S : Sto} (e : Xp) : gIs "tuple" S (exD e) = some (.bl true) := by rw [ex_eq]; exact r_isTt
end Pv
set_option Elab.async false
set_option linter.all false
set_option maxRecDepth 100000
set_option maxHeartbeats 0
namespace Pv
open PySem PySem.Spec PyProof.Rows L2
/-! what is an expression: trees with any numbers -/
noncomputable def b_is_whole : SX := sRet (eAnd (e1 (gIs "int") (eVar 0)) (eAnd (e1 fNot (e1 (gIs "bool") (eVar 0))) (eAnd (e2 fLe (eVar 1) (eVar 0)) (eOr (e2 fIs (eVar 2) (eC .non)) (e2 fLe (eVar 0) (eVar 2))))))
noncomputable def c_is_whole : Con := den 3 3 0 b_is_whole
noncomputable def b_is_figure (k_is_whole : Con) : SX := sRet (eCall k_is_whole (aCons (eVar 0) (aCons (e1 fNeg (eC (.int 1000))) (aCons (eC (.int 1000)) (aNil)))))
noncomputable def c_is_figure : Con := den 1 1 0 (b_is_figure c_is_whole)
noncomputable def b_is_leaf (k_is_figure k_is_whole : Con) : SX := sSeq (sIf (tOf (e2 fEq (e2 fIx (eVar 0) (eC (.int 0))) (eC (.str "fig")))) (sRet (eCall k_is_figure (aCons (e2 fIx (eVar 0) (eC (.int 1))) (aNil)))) (sNil)) (sSeq (sIf (tOf (e2 fEq (e2 fIx (eVar 0) (eC (.int 0))) (eC (.str "reg")))) (sRet (eCall k_is_whole (aCons (e2 fIx (eVar 0) (eC (.int 1))) (aCons (eC (.int 0)) (aCons (e2 fSub (eC (.int 4)) (eC (.int 1))) (aNil)))))) (sNil)) (sRet (eAnd (e2 fEq (e2 fIx (eVar 0) (eC (.int 0))) (eC (.str "share"))) (eCall k_is_whole (aCons (e2 fIx (eVar 0) (eC (.int 1))) (aCons (eC (.int 0)) (aCons (e2 fSub (eVar 1) (eC (.int 1))) (aNil))))))))
noncomputable def c_is_leaf : Con := den 2 2 0 (b_is_leaf c_is_figure c_is_whole)
noncomputable def b_parts_of (k_is_leaf k_is_whole k_is_figure : Con) : SX := sSeq (sIf (tOf (e2 fEq (eCB (fn1 gLen) (aCons (eVar 0) (aNil))) (eC (.int 2)))) (sRet (eIf (tOf (eCall k_is_leaf (aCons (eVar 0) (aCons (eVar 1) (aNil))))) (eTup (aNil)) (eC .non))) (sNil)) (sSeq (sIf (tAnd' (tOf (e2 fEq (eCB (fn1 gLen) (aCons (eVar 0) (aNil))) (eC (.int 3)))) (tOf (e2 fIn (e2 fIx (eVar 0) (eC (.int 0))) (eC (.tup [.str "sum", .str "less", .str "least", .str "most"]))))) (sRet (eSl fSlT (eVar 0) (oSome (eC (.int 1))) (oNo))) (sNil)) (sSeq (sIf (tAnd' (tOf (e2 fEq (eCB (fn1 gLen) (aCons (eVar 0) (aNil))) (eC (.int 3)))) (tOr' (tAnd' (tOf (e2 fEq (e2 fIx (eVar 0) (eC (.int 0))) (eC (.str "times")))) (tOf (eCall k_is_whole (aCons (e2 fIx (eVar 0) (eC (.int 1))) (aCons (e1 fNeg (eC (.int 9))) (aCons (eC (.int 9)) (aNil))))))) (tAnd' (tOf (e2 fEq (e2 fIx (eVar 0) (eC (.int 0))) (eC (.str "by")))) (tOf (eCall k_is_whole (aCons (e2 fIx (eVar 0) (eC (.int 1))) (aCons (eC (.int 0)) (aCons (e2 fSub (eC (.int 4)) (eC (.int 1))) (aNil))))))))) (sRet (eSl fSlT (eVar 0) (oSome (eC (.int 2))) (oNo))) (sNil)) (sSeq (sIf (tAnd' (tOf (e2 fEq (eCB (fn1 gLen) (aCons (eVar 0) (aNil))) (eC (.int 5)))) (tAnd' (tOf (e2 fEq (e2 fIx (eVar 0) (eC (.int 0))) (eC (.str "when")))) (tAnd' (tOf (eCall k_is_whole (aCons (e2 fIx (eVar 0) (eC (.int 1))) (aCons (eC (.int 0)) (aCons (e2 fSub (eC (.int 4)) (eC (.int 1))) (aNil)))))) (tOf (eCall k_is_figure (aCons (e2 fIx (eVar 0) (eC (.int 2))) (aNil))))))) (sRet (eSl fSlT (eVar 0) (oSome (eC (.int 3))) (oNo))) (sNil)) (sSeq (sIf (tAnd' (tOf (e2 fEq (eCB (fn1 gLen) (aCons (eVar 0) (aNil))) (eC (.int 5)))) (tAnd' (tOf (e2 fEq (e2 fIx (eVar 0) (eC (.int 0))) (eC (.str "where")))) (tAnd' (tOf (eCall k_is_whole (aCons (e2 fIx (eVar 0) (eC (.int 1))) (aCons (eC (.int 0)) (aCons (e2 fSub (eVar 1) (eC (.int 1))) (aNil)))))) (tOf (eCall k_is_whole (aCons (e2 fIx (eVar 0) (eC (.int 2))) (aCons (eC (.int 1)) (aCons (eC (.int 1000)) (aNil))))))))) (sRet (eSl fSlT (eVar 0) (oSome (eC (.int 3))) (oNo))) (sNil)) (sRet (eC .non))))))
noncomputable def c_parts_of : Con := den 2 2 0 (b_parts_of c_is_leaf c_is_whole c_is_figure)
noncomputable def b_is_expression (k_parts_of : Con) : SX := sSeq (sPar 2 3 (aCons (eBx (lDisp (aCons (eTup (aCons (eVar 0) (aCons (eC (.int 1)) (aNil)))) (aNil)))) (aCons (eC (.int 0)) (aNil)))) (sSeq (sWhile (tOf (e2 fNe (eVar 2) (eFz (lDisp (aNil))))) (sSeq (sAsg (eMt hPop (eVar 2) aNil) (gT 2 (gsCons (gN 5) (gsCons (gN 6) (gsNil))))) (sSeq (sAug 3 fIAdd (eC (.int 1))) (sSeq (sIf (tOr' (tOf (e2 fGt (eVar 6) (eC (.int 8)))) (tOr' (tOf (e2 fGt (eVar 3) (eC (.int 40)))) (tOr' (tNot' (tOf (e1 (gIs "tuple") (eVar 5)))) (tOf (e2 fNotIn (eCB (fn1 gLen) (aCons (eVar 5) (aNil))) (eTup (aCons (eC (.int 2)) (aCons (eC (.int 3)) (aCons (eC (.int 5)) (aNil)))))))))) (sRet (eC (.bl false))) (sNil)) (sSeq (sAsg (eIf (tOf (e1 (gIs "str") (e2 fIx (eVar 5) (eC (.int 0))))) (eCall k_parts_of (aCons (eVar 5) (aCons (eVar 1) (aNil)))) (eC .non)) (gN 4)) (sSeq (sIf (tOf (e2 fIs (eVar 4) (eC .non))) (sRet (eC (.bl false))) (sNil)) (sExpr (eMt hExtend (eVar 2) (aCons (eFz (lLc (iSeq (eVar 4)) (gN 7) (tYes') (eTup (aCons (eVar 7) (aCons (e2 fAdd (eVar 6) (eC (.int 1))) (aNil)))) [7])) (aNil)))))))))) (sRet (eC (.bl true))))
noncomputable def c_is_expression : Con := den 2 8 0 (b_is_expression c_parts_of)
inductive Yp where
  | fig (n : Int)
  | reg (n : Int)
  | shr (n : Int)
  | tim (n : Int) (a : Yp)
  | byr (n : Int) (a : Yp)
  | whn (i f : Int) (a b : Yp)
  | whr (i f : Int) (a b : Yp)
  | sum (a b : Yp)
  | les (a b : Yp)
  | lst (a b : Yp)
  | mst (a b : Yp)
def yD : Yp → D
  | .fig n => .tup [.str "fig", .int n]
  | .reg i => .tup [.str "reg", .int i]
  | .shr i => .tup [.str "share", .int i]
  | .tim n a => .tup [.str "times", .int n, yD a]
  | .byr i a => .tup [.str "by", .int i, yD a]
  | .whn i f a b => .tup [.str "when", .int i, .int f, yD a, yD b]
  | .whr i f a b => .tup [.str "where", .int i, .int f, yD a, yD b]
  | .sum a b => .tup [.str "sum", yD a, yD b]
  | .les a b => .tup [.str "less", yD a, yD b]
  | .lst a b => .tup [.str "least", yD a, yD b]
  | .mst a b => .tup [.str "most", yD a, yD b]
def kids : Yp → List Yp
  | .fig _ => []
  | .reg _ => []
  | .shr _ => []
  | .tim _ a => [a]
  | .byr _ a => [a]
  | .whn _ _ a b => [a, b]
  | .whr _ _ a b => [a, b]
  | .sum a b => [a, b]
  | .les a b => [a, b]
  | .lst a b => [a, b]
  | .mst a b => [a, b]
def iw (z lo hi : Int) : Bool := decide (lo ≤ z) && decide (z ≤ hi)
def nodeOk (many : Int) : Yp → Bool
  | .fig n => iw n (-1000) 1000
  | .reg n => iw n 0 3
  | .shr n => iw n 0 (many - 1)
  | .tim n _ => iw n (-9) 9
  | .byr n _ => iw n 0 3
  | .whn i f _ _ => iw i 0 3 && iw f (-1000) 1000
  | .whr i f _ _ => iw i 0 (many - 1) && iw f 1 1000
  | _ => true
def siz : Yp → Nat
  | .fig _ => 1
  | .reg _ => 1
  | .shr _ => 1
  | .tim _ a => 1 + siz a
  | .byr _ a => 1 + siz a
  | .whn _ _ a b => 1 + (siz a + siz b)
  | .whr _ _ a b => 1 + (siz a + siz b)
  | .sum a b => 1 + (siz a + siz b)
  | .les a b => 1 + (siz a + siz b)
  | .lst a b => 1 + (siz a + siz b)
  | .mst a b => 1 + (siz a + siz b)
def deep : Yp → Nat
  | .fig _ => 1
  | .reg _ => 1
  | .shr _ => 1
  | .tim _ a => 1 + deep a
  | .byr _ a => 1 + deep a
  | .whn _ _ a b => 1 + max (deep a) (deep b)
  | .whr _ _ a b => 1 + max (deep a) (deep b)
  | .sum a b => 1 + max (deep a) (deep b)
  | .les a b => 1 + max (deep a) (deep b)
  | .lst a b => 1 + max (deep a) (deep b)
  | .mst a b => 1 + max (deep a) (deep b)
def okY (many : Int) : Yp → Bool
  | .fig n => nodeOk many (.fig n)
  | .reg n => nodeOk many (.reg n)
  | .shr n => nodeOk many (.shr n)
  | .tim n a => nodeOk many (.tim n a) && okY many a
  | .byr n a => nodeOk many (.byr n a) && okY many a
  | .whn i f a b => nodeOk many (.whn i f a b) && (okY many a && okY many b)
  | .whr i f a b => nodeOk many (.whr i f a b) && (okY many a && okY many b)
  | .sum a b => okY many a && okY many b
  | .les a b => okY many a && okY many b
  | .lst a b => okY many a && okY many b
  | .mst a b => okY many a && okY many b
theorem okY_eq (many : Int) (e : Yp) : okY many e = (nodeOk many e && (kids e).all (okY many)) := by
  cases e <;> simp [okY, kids, nodeOk]
theorem siz_eq (e : Yp) : siz e = 1 + ((kids e).map siz).sum := by cases e <;> simp [siz, kids]
theorem siz_pos (e : Yp) : 1 ≤ siz e := by rw [siz_eq]; omega
theorem deep_kids (e : Yp) (k : Nat) : deep e ≤ k + 1 ↔ ∀ x, x ∈ kids e → deep x ≤ k := by
  cases e <;> simp [deep, kids] <;> omega
theorem deep_pos (e : Yp) : 1 ≤ deep e := by cases e <;> simp [deep]
theorem yD_bare : ∀ e : Yp, bare (yD e) = true := by
  intro e
  induction e <;> simp_all [yD, bare, bareL]
theorem yD_len {S : Sto} (e : Yp) : gLen S (yD e) = some (.int 2) ∨ gLen S (yD e) = some (.int 3) ∨ gLen S (yD e) = some (.int 5) := by
  cases e <;> first | exact .inl rfl | exact .inr (.inl rfl) | exact .inr (.inr rfl)
theorem yD_tup {S : Sto} (e : Yp) : gIs "tuple" S (yD e) = some (.bl true) := by cases e <;> exact r_isTt
theorem yD_0 {S : Sto} (e : Yp) : ∃ w, fIx S (yD e) (.int 0) = some (.str w) := by cases e <;> exact ⟨_, rfl⟩
theorem r_isSs {S : Sto} {u : Str} : gIs "str" S (.str u) = some (.bl true) := by
  show (kitB "str" "str").map D.bl = _
  rw [show kitB "str" "str" = some true by decide +kernel]
  rfl
theorem r_isIi {S : Sto} {z : Int} : gIs "int" S (.int z) = some (.bl true) := by
  show (kitB "int" "int").map D.bl = _
  rw [show kitB "int" "int" = some true by decide +kernel]
  rfl
theorem r_isBi {S : Sto} {z : Int} : gIs "bool" S (.int z) = some (.bl false) := by
  show (kitB "int" "bool").map D.bl = _
  rw [show kitB "int" "bool" = some false by decide +kernel]
  rfl
theorem r_inS4 {S : Sto} {u a b c d : Str} : fIn S (.str u) (.tup [.str a, .str b, .str c, .str d]) = some (.bl (a == u || (b == u || (c == u || (d == u || false))))) := rfl
theorem beqS {u v : Str} : (u == v) = decide (u = v) := by
  by_cases h : u = v
  · subst h; simp
  · rw [decide_eq_false h]; exact beq_eq_false_iff_ne.mpr h
theorem CV_whole {S : Sto} {z lo hi : Int} {Q : D → Sto → Prop} (q : Q (.bl (iw z lo hi)) S) : CV c_is_whole [.int z, .int lo, .int hi] S Q := by
  refine CV_plain rfl ?_
  unfold b_is_whole
  (simp_arith [r_isIi, r_isBi, Bool.not_false, isNon])
  unfold iw at q
  by_cases h : lo ≤ z
  · rw [if_pos h]
    rw [decide_eq_true h, Bool.true_and] at q
    exact RtP_same rfl q
  · rw [if_neg h]
    rw [decide_eq_false h, Bool.false_and] at q
    exact RtP_same rfl q
theorem CV_isfig {S : Sto} {z : Int} {Q : D → Sto → Prop} (q : Q (.bl (iw z (-1000) 1000)) S) : CV c_is_figure [.int z] S Q := by
  refine CV_plain rfl ?_
  unfold b_is_figure
  (simp_arith [])
  exact CV_whole (RtP_same rfl q)
theorem CV_isleaf {S : Sto} {many : Int} {e : Yp} {Q : D → Sto → Prop} (h : kids e = []) (h2 : ∃ n, e = .fig n ∨ e = .reg n ∨ e = .shr n) (q : Q (.bl (nodeOk many e)) S) : CV c_is_leaf [yD e, .int many] S Q := by
  refine CV_plain rfl ?_
  unfold b_is_leaf
  obtain ⟨n, rfl | rfl | rfl⟩ := h2
  · unfold yD
    (simp_arith [Wd])
    exact CV_isfig (RtP_same rfl q)
  · unfold yD
    (simp_arith [Wd])
    exact CV_whole (RtP_same rfl q)
  · unfold yD
    (simp_arith [Wd, decide_true])
    exact CV_whole (RtP_same rfl q)
def prtD (many : Int) (e : Yp) : D := if nodeOk many e = true then .tup ((kids e).map yD) else .non
theorem CV_parts {S : Sto} {many : Int} (e : Yp) {Q : D → Sto → Prop} (q : Q (prtD many e) S) : CV c_parts_of [yD e, .int many] S Q := by
  have leafc : ∀ {e : Yp} {w : Str} {n : Int}, yD e = .tup [.str w, .int n] → kids e = [] → (∃ n, e = .fig n ∨ e = .reg n ∨ e = .shr n) → Q (prtD many e) S → CV c_parts_of [yD e, .int many] S Q := by
    intro e w n he hk hl q
    refine CV_plain rfl ?_
    unfold b_parts_of
    have el : gLen S (yD e) = some (.int 2) := by rw [he]; rfl
    (simp_arith [el])
    refine CV_isleaf hk hl ?_
    unfold prtD at q
    (simp_arith [])
    by_cases ho : nodeOk many e = true
    · rw [if_pos ho] at q ⊢
      rw [hk] at q
      exact ⟨rfl, RtP_same rfl q⟩
    · rw [if_neg ho] at q ⊢
      exact RtP_same rfl q
  have c1 : ∀ {a b c : D}, cutD [a, b, c] (some 1) none = [b, c] := rfl
  have c2 : ∀ {a b c : D}, cutD [a, b, c] (some 2) none = [c] := rfl
  have c3 : ∀ {a b c d e : D}, cutD [a, b, c, d, e] (some 3) none = [d, e] := rfl
  have pair : ∀ {a b : Yp}, bare (.tup [yD a, yD b]) = true := fun {a b} => by simp [bare, bareL, yD_bare]
  have sing : ∀ {a : Yp}, bare (.tup [yD a]) = true := fun {a} => by simp [bare, bareL, yD_bare]
  cases e with
  | fig n => exact leafc rfl rfl ⟨n, .inl rfl⟩ q
  | reg n => exact leafc rfl rfl ⟨n, .inr (.inl rfl)⟩ q
  | shr n => exact leafc rfl rfl ⟨n, .inr (.inr rfl)⟩ q
  | sum a b =>
    refine CV_plain rfl ?_
    unfold b_parts_of yD
    (simp_arith [Wd, r_inS4, beqS, decide_true, decide_false, Bool.true_or, Bool.false_or, Bool.or_true, Bool.or_false, Int.reduceEq, show ((3 : Nat) : Int) = 3 from rfl, c1])
    have q : Q (.tup [yD a, yD b]) S := q
    exact RtP_same pair q
  | les a b =>
    refine CV_plain rfl ?_
    unfold b_parts_of yD
    (simp_arith [Wd, r_inS4, beqS, decide_true, decide_false, Bool.true_or, Bool.false_or, Bool.or_true, Bool.or_false, Int.reduceEq, show ((3 : Nat) : Int) = 3 from rfl, c1])
    have q : Q (.tup [yD a, yD b]) S := q
    exact RtP_same pair q
  | lst a b =>
    refine CV_plain rfl ?_
    unfold b_parts_of yD
    (simp_arith [Wd, r_inS4, beqS, decide_true, decide_false, Bool.true_or, Bool.false_or, Bool.or_true, Bool.or_false, Int.reduceEq, show ((3 : Nat) : Int) = 3 from rfl, c1])
    have q : Q (.tup [yD a, yD b]) S := q
    exact RtP_same pair q
  | mst a b =>
    refine CV_plain rfl ?_
    unfold b_parts_of yD
    (simp_arith [Wd, r_inS4, beqS, decide_true, decide_false, Bool.true_or, Bool.false_or, Bool.or_true, Bool.or_false, Int.reduceEq, show ((3 : Nat) : Int) = 3 from rfl, c1])
    have q : Q (.tup [yD a, yD b]) S := q
    exact RtP_same pair q
  | tim n a =>
    refine CV_plain rfl ?_
    unfold b_parts_of yD
    (simp_arith [Wd, r_inS4, beqS, decide_true, decide_false, Bool.true_or, Bool.false_or, Bool.or_true, Bool.or_false, Int.reduceEq, show ((3 : Nat) : Int) = 3 from rfl, c2])
    refine CV_whole ?_
    have q : Q (if iw n (-9) 9 = true then .tup [yD a] else .non) S := q
    by_cases ho : iw n (-9) 9 = true
    · rw [if_pos ho] at q
      (simp_arith [ho])
      exact RtP_same sing q
    · rw [if_neg ho] at q
      (simp_arith [ho, Int.reduceEq])
      exact RtP_same rfl q
  | byr n a =>
    refine CV_plain rfl ?_
    unfold b_parts_of yD
    (simp_arith [Wd, r_inS4, beqS, decide_true, decide_false, Bool.true_or, Bool.false_or, Bool.or_true, Bool.or_false, Int.reduceEq, show ((3 : Nat) : Int) = 3 from rfl, c2])
    refine CV_whole ?_
    have q : Q (if iw n 0 (4 - 1) = true then .tup [yD a] else .non) S := q
    by_cases ho : iw n 0 (4 - 1) = true
    · rw [if_pos ho] at q
      (simp_arith [ho])
      exact RtP_same sing q
    · rw [if_neg ho] at q
      (simp_arith [ho, Int.reduceEq])
      exact RtP_same rfl q
  | whn i f a b =>
    refine CV_plain rfl ?_
    unfold b_parts_of yD
    (simp_arith [Wd, Int.reduceEq, show ((5 : Nat) : Int) = 5 from rfl, c3])
    refine CV_whole ?_
    have q : Q (if (iw i 0 (4 - 1) && iw f (-1000) 1000) = true then .tup [yD a, yD b] else .non) S := q
    by_cases ho : iw i 0 (4 - 1) = true
    · rw [ho, Bool.true_and] at q
      (simp_arith [ho])
      refine CV_isfig ?_
      by_cases hf : iw f (-1000) 1000 = true
      · rw [if_pos hf] at q
        (simp_arith [hf])
        exact RtP_same pair q
      · rw [if_neg hf] at q
        (simp_arith [hf])
        exact RtP_same rfl q
    · rw [if_neg (fun h => ho (Bool.and_eq_true_iff.mp h).1)] at q
      (simp_arith [ho])
      exact RtP_same rfl q
  | whr i f a b =>
    refine CV_plain rfl ?_
    unfold b_parts_of yD
    (simp_arith [Wd, Int.reduceEq, show ((5 : Nat) : Int) = 5 from rfl, c3])
    refine CV_whole ?_
    have q : Q (if (iw i 0 (many - 1) && iw f 1 1000) = true then .tup [yD a, yD b] else .non) S := q
    by_cases ho : iw i 0 (many - 1) = true
    · rw [ho, Bool.true_and] at q
      (simp_arith [ho])
      refine CV_whole ?_
      by_cases hf : iw f 1 1000 = true
      · rw [if_pos hf] at q
        (simp_arith [hf])
        exact RtP_same pair q
      · rw [if_neg hf] at q
        (simp_arith [hf])
        exact RtP_same rfl q
    · rw [if_neg (fun h => ho (Bool.and_eq_true_iff.mp h).1)] at q
      (simp_arith [ho])
      exact RtP_same rfl q
end Pv
set_option Elab.async false
set_option linter.all false
set_option maxRecDepth 100000
set_option maxHeartbeats 0
namespace Pv
open PySem PySem.Spec PyProof.Rows L2
/-! is_expression: the loop over what waits -/
theorem r_ne_box {S : Sto} {n : Nat} {ds : List D} (k : Nat) (hb : boxAt S n = some ds) (h : shortL k ds = true) (h1 : depL ds ≤ 60) (hk : 0 < k := by decide) : fNe S (.ref n) (.lst []) = some (.bl (!ds.isEmpty)) := by
  obtain ⟨a, b, c, e, f, g⟩ := shortL_pd hk ds h
  have h3 := shaped_short (d := .lst ds) hk h (by show depL ds + 1 ≤ 64; omega)
  have h4 := pdS_short (S := S) (d := .lst []) hk rfl
  have h2 : pdS S (.ref n) = some (pd (.lst ds)) := by
    show (boxAt S n).bind _ = _
    rw [hb]
    show (if flatL ds = true then some (PyData.list (pdL ds)) else none) = _
    rw [if_pos a]
    rfl
  have he : fEq S (.ref n) (.lst []) = some (.bl ds.isEmpty) := by
    show ((pdS S (.ref n)).bind fun p => (pdS S (.lst [])).bind fun q => if (SeqAt.shaped p && SeqAt.shaped q) = true then some (D.bl (PyData.eqv p q)) else none) = _
    rw [h2, h4]
    show (if (SeqAt.shaped (pd (.lst ds)) && SeqAt.shaped (pd (.lst []))) = true then some (D.bl (PyData.eqv (pd (.lst ds)) (pd (.lst [])))) else none) = _
    rw [h3]
    cases ds <;> rfl
  unfold fNe
  rw [he]
  rfl
abbrev Wt := Yp × Nat
def stD (p : Wt) : D := .tup [yD p.1, .int p.2]
def sizS (st : List Wt) : Nat := (st.map fun p => siz p.1).sum
def goodS (many : Int) (st : List Wt) (c : Nat) : Bool := (st.all fun p => okY many p.1 && decide (p.2 + deep p.1 ≤ 9)) && decide (c + sizS st ≤ 40)
structure Fit (p : Wt) : Prop where
  sh : shortB 13 (yD p.1) = true
  dp : dep (yD p.1) ≤ 50
  lv : p.2 ≤ 1000
theorem kid_fit {e x : Yp} (h : shortB 13 (yD e) = true) (hx : x ∈ kids e) : shortB 13 (yD x) = true ∧ dep (yD x) ≤ dep (yD e) := by
  cases e <;> simp only [kids, List.mem_cons, List.not_mem_nil, or_false] at hx
  · subst hx; simp only [yD, shortB, shortL, Bool.and_eq_true, dep, depL] at h ⊢; exact ⟨h.2.2.1, by omega⟩
  · subst hx; simp only [yD, shortB, shortL, Bool.and_eq_true, dep, depL] at h ⊢; exact ⟨h.2.2.1, by omega⟩
  · rcases hx with rfl | rfl <;> simp only [yD, shortB, shortL, Bool.and_eq_true, dep, depL] at h ⊢
    · exact ⟨h.2.2.2.1, by omega⟩
    · exact ⟨h.2.2.2.2.1, by omega⟩
  · rcases hx with rfl | rfl <;> simp only [yD, shortB, shortL, Bool.and_eq_true, dep, depL] at h ⊢
    · exact ⟨h.2.2.2.1, by omega⟩
    · exact ⟨h.2.2.2.2.1, by omega⟩
  all_goals (rcases hx with rfl | rfl <;> simp only [yD, shortB, shortL, Bool.and_eq_true, dep, depL] at h ⊢)
  all_goals first | exact ⟨h.2.1, by omega⟩ | exact ⟨h.2.2.1, by omega⟩
theorem fits_data {st : List Wt} (h : ∀ p, p ∈ st → Fit p) : shortL 13 (st.map stD) = true ∧ depL (st.map stD) ≤ 60 := by
  refine ⟨shortL_iff.mpr fun d hd => ?_, depL_le fun d hd => ?_⟩
  · obtain ⟨p, hp, rfl⟩ := List.mem_map.mp hd
    have f := h p hp
    show (shortB 13 (yD p.1) && (decide ((p.2 : Int).natAbs < 10 ^ 13) && true)) = true
    rw [f.sh, decide_eq_true (by have := f.lv; omega)]
    rfl
  · obtain ⟨p, hp, rfl⟩ := List.mem_map.mp hd
    have f := h p hp
    show max (dep (yD p.1)) (max 0 0) + 1 ≤ 60
    have := f.dp
    omega
theorem sizS_app (a b : List Wt) : sizS (a ++ b) = sizS a + sizS b := by unfold sizS; rw [List.map_append, List.sum_append]
theorem sizS_len : ∀ st : List Wt, st.length ≤ sizS st
  | [] => Nat.le_refl _
  | p :: st => by
    have h1 := sizS_len st
    have h2 := siz_pos p.1
    show st.length + 1 ≤ siz p.1 + sizS st
    omega
theorem sizS_kids (e : Yp) (d : Nat) : sizS ((kids e).map fun x => (x, d)) + 1 = siz e := by
  rw [siz_eq]
  unfold sizS
  rw [List.map_map]
  have : ((fun p : Wt => siz p.1) ∘ fun x => (x, d)) = siz := rfl
  rw [this]
  omega
theorem goodS_last {many : Int} {st : List Wt} {e : Yp} {d c : Nat} (hd : d ≤ 8) (hn : nodeOk many e = true) : goodS many (st ++ [(e, d)]) c = goodS many (st ++ (kids e).map fun x => (x, d + 1)) (c + 1) := by
  unfold goodS
  have e1 : c + sizS (st ++ [(e, d)]) = c + 1 + sizS (st ++ (kids e).map fun x => (x, d + 1)) := by
    rw [sizS_app, sizS_app]
    have h1 := sizS_kids e (d + 1)
    have h2 : sizS [(e, d)] = siz e := rfl
    omega
  rw [e1, List.all_append, List.all_append]
  congr 1
  congr 1
  rw [List.all_cons, List.all_nil, Bool.and_true, List.all_map, okY_eq, hn, Bool.true_and]
  have e2 : decide (d + deep e ≤ 9) = (kids e).all fun x => decide (d + 1 + deep x ≤ 9) := by
    rw [Bool.eq_iff_iff, decide_eq_true_eq, List.all_eq_true]
    have h := deep_kids e (8 - d)
    constructor
    · intro h1 x hx
      have := h.mp (by omega) x hx
      exact decide_eq_true (by omega)
    · intro h1
      have := h.mpr fun x hx => by have := of_decide_eq_true (h1 x hx); omega
      omega
  rw [e2]
  rw [Bool.eq_iff_iff, Bool.and_eq_true, List.all_eq_true, List.all_eq_true, List.all_eq_true]
  constructor
  · rintro ⟨h1, h2⟩ x hx
    show (okY many x && decide (d + 1 + deep x ≤ 9)) = true
    rw [h1 x hx, h2 x hx]; rfl
  · intro h1
    refine ⟨fun x hx => (Bool.and_eq_true_iff.mp (h1 x hx)).1, fun x hx => (Bool.and_eq_true_iff.mp (h1 x hx)).2⟩
theorem goodS_bad {many : Int} {st : List Wt} {e : Yp} {d c : Nat} (h : 8 < d ∨ 40 < c + 1 ∨ nodeOk many e = false) : goodS many (st ++ [(e, d)]) c = false := by
  unfold goodS
  rcases h with h | h | h
  · have := deep_pos e
    rw [List.all_append, List.all_cons, decide_eq_false (by omega : ¬ d + deep e ≤ 9)]
    simp
  · have := siz_pos e
    have h2 : sizS [(e, d)] = siz e := rfl
    rw [decide_eq_false (by rw [sizS_app]; omega), Bool.and_false]
  · rw [List.all_append, List.all_cons, okY_eq, h]
    simp
theorem pop_last {S : Sto} {st : List Wt} {p : Wt} : hPop S ((st ++ [p]).map stD) [] = some (stD p, st.map stD) := by
  show ((((st ++ [p]).map stD)[((st ++ [p]).map stD).length - 1]?).map fun d => (d, ((st ++ [p]).map stD).dropLast)) = _
  rw [List.map_append]
  simp
theorem CV_isexpr {S : Sto} {many : Int} {e : Yp} {Q : D → Sto → Prop} (h1 : shortB 13 (yD e) = true) (h2 : dep (yD e) ≤ 50) (h3 : siz e ≤ 100000) (q : Q (.bl (okY many e && decide (deep e ≤ 8) && decide (siz e ≤ 40))) S) : CV c_is_expression [yD e, .int many] S Q := by
  refine CV_plain rfl ?_
  unfold b_is_expression
  (simp_arith [])
  refine ⟨rfl, rfl, ?_⟩
  have eG : goodS many [(e, 1)] 0 = (okY many e && decide (deep e ≤ 8) && decide (siz e ≤ 40)) := by
    unfold goodS
    have a1 : decide (1 + deep e ≤ 9) = decide (deep e ≤ 8) := by rw [Bool.eq_iff_iff, decide_eq_true_eq, decide_eq_true_eq]; omega
    have a2 : 0 + sizS [(e, 1)] = siz e := Nat.zero_add _
    rw [a2, List.all_cons, List.all_nil, Bool.and_true, a1]
  rw [← eG] at q
  generalize hG : goodS many [(e, 1)] 0 = G at q
  refine SV_whileI (fun n e' S' => ∃ (st : List Wt) (c : Nat) (x4 x5 x6 x7 : Option D), n = sizS st ∧ (∀ p, p ∈ st → Fit p) ∧ c ≤ 40 ∧ sizS st ≤ 100000 ∧ goodS many st c = G ∧ e' = [some (yD e), some (.int many), some (.ref S.length), some (.int c), x4, x5, x6, x7] ∧ S' = S ++ [.lst (st.map stD)]) (siz e) ⟨[(e, 1)], 0, none, none, none, none, rfl, fun p hp => ?_, by decide, h3, hG, rfl, rfl⟩ ?_
  · rw [List.mem_singleton.mp hp]
    exact ⟨h1, h2, Nat.le_of_ble_eq_true rfl⟩
  · rintro n e' S' K ⟨st, c, x4, x5, x6, x7, rfl, f1, f2, f3, f4, rfl, rfl⟩ hK
    obtain ⟨d1, d2⟩ := fits_data f1
    (simp_arith [r_ne_box 13 box_last d1 d2])
    refine ⟨rfl, ?_⟩
    rcases List.eq_nil_or_concat st with rfl | ⟨st', p, rfl⟩
    · (simp_arith [List.map_nil, List.isEmpty_nil, Bool.not_true])
      have hg : G = true := by
        rw [← f4]
        unfold goodS
        rw [decide_eq_true (by show c + 0 ≤ 40; omega)]
        rfl
      rw [hg] at q
      exact ⟨⟨_, rfl⟩, .inl ⟨rfl, q⟩⟩
    · obtain ⟨e1, d⟩ := p
      rw [List.concat_eq_append] at *
      have fp : Fit (e1, d) := f1 _ (by simp)
      have hne : ((st' ++ [(e1, d)]).map stD).isEmpty = false := by rw [List.map_append]; cases st' <;> rfl
      have hp := @pop_last (S ++ [.lst ((st' ++ [(e1, d)]).map stD)]) st' (e1, d)
      have eb : boxAt (S ++ [.lst ((st' ++ [(e1, d)]).map stD)]) S.length = some ((st' ++ [(e1, d)]).map stD) := box_last
      have hs := sizS_app st' [(e1, d)]
      have hs1 : sizS [(e1, d)] = siz e1 := rfl
      have hs2 := sizS_len st'
      have bad : ∀ (h : 8 < d ∨ 40 < c + 1 ∨ nodeOk many e1 = false) (st2 : List Wt), RtP S (fun d => Q d S) (Out.rt (.bl false) (S ++ [.lst (st2.map stD)])) := fun h st2 => by
        rw [← f4, goodS_bad h] at q
        exact ⟨⟨_, rfl⟩, .inl ⟨rfl, q⟩⟩
      (simp_arith [hne, Bool.not_false, eb, hp, Prod.mk.injEq])
      have es : stD (e1, d) = .tup [yD e1, .int d] := rfl
      (simp_arith [es, set_last])
      by_cases hd : 8 < (d : Int)
      · rw [if_pos hd]
        exact bad (.inl (by omega)) st'
      · rw [if_neg hd]
        by_cases hc : 40 < (c : Int) + 1
        · rw [if_pos hc]
          exact bad (.inr (.inl (by omega))) st'
        · rw [if_neg hc]
          obtain ⟨w, hw⟩ := yD_0 (S := S ++ [.lst (st'.map stD)]) e1
          have hin : ∃ l, gLen (S ++ [.lst (st'.map stD)]) (yD e1) = some (.int l) ∧ fNotIn (S ++ [.lst (st'.map stD)]) (.int l) (.tup [.int 2, .int 3, .int 5]) = some (.bl false) := by
            rcases yD_len (S := S ++ [.lst (st'.map stD)]) e1 with h | h | h <;> exact ⟨_, h, rfl⟩
          obtain ⟨l, hl1, hl2⟩ := hin
          (simp_arith [yD_tup, hl1, hl2, hw, r_isSs])
          refine ⟨rfl, CV_parts e1 ?_⟩
          unfold prtD
          by_cases ho : nodeOk many e1 = true
          · (simp_arith [ho, isNon])
            refine (LV_map (fun x => .tup [x, .int ((d : Int) + 1)]) (fun n _ => rfl) fun x K2 hx hK2 => ?_).lc fun out S2 q2 => ?_
            · (simp_arith [])
              exact ⟨rfl, hK2⟩
            · obtain ⟨rfl, rfl⟩ := q2
              have hk : ((kids e1).map yD).map (fun x => D.tup [x, .int ((d : Int) + 1)]) = ((kids e1).map fun x => (x, d + 1)).map stD := by
                rw [List.map_map, List.map_map]
                rfl
              have hsk := sizS_kids e1 (d + 1)
              have hlk := sizS_len ((kids e1).map fun x => (x, d + 1))
              rw [hk]
              refine ⟨sz_le (by rw [List.length_map]; omega), _, box_last, ex_extend.mpr ⟨sz_le (by rw [List.length_map, List.length_map]; omega), (fun n hn => nomatch hn), hK (sizS (st' ++ (kids e1).map fun x => (x, d + 1))) _ _ ?_ ⟨st' ++ (kids e1).map fun x => (x, d + 1), c + 1, _, _, _, _, rfl, fun p hp => ?_, by omega, ?_, ?_, rfl, ?_⟩⟩⟩
              · rw [sizS_app]; omega
              · rcases List.mem_append.mp hp with hp | hp
                · exact f1 p (List.mem_append_left _ hp)
                · obtain ⟨x, hx, rfl⟩ := List.mem_map.mp hp
                  obtain ⟨k1, k2⟩ := kid_fit fp.sh hx
                  exact ⟨k1, Nat.le_trans k2 fp.dp, by show d + 1 ≤ 1000; omega⟩
              · rw [sizS_app]; omega
              · rw [← goodS_last (by omega) ho]; exact f4
              · rw [set_last, List.map_append]
          · (simp_arith [ho, isNon])
            exact bad (.inr (.inr (by simpa using ho))) st'
end Pv
set_option Elab.async false
set_option linter.all false
set_option maxRecDepth 100000
set_option maxHeartbeats 0
namespace Pv
open PySem PySem.Spec PyProof.Rows L2
noncomputable def b_expr (k__law_of k__law_leaf k__law_expression k__law_take k__law_figure : Con) : SX := sSeq (sAsg (eFz (lDisp (aCons (eC (.str "sum")) (aCons (eC (.str "less")) (aCons (eC (.str "least")) (aCons (eC (.str "most")) (aCons (eC (.str "least")) (aCons (eC (.str "most")) (aCons (eC (.str "times")) (aCons (eC (.str "by")) (aCons (eC (.str "when")) (aCons (eC (.str "leaf")) (aNil))))))))))))) (gN 4)) (sSeq (sAsg (eFz (l2 fAddL (eVar 4) (eFz (l2 fMulL (eFz (lDisp (aCons (eC (.str "where")) (aCons (eC (.str "where")) (aNil))))) (eVar 3))))) (gN 4)) (sSeq (sAsg (eIf (tOf (e2 fEq (eVar 2) (eC (.int 0)))) (eC (.str "leaf")) (eCall k__law_of (aCons (eVar 0) (aCons (eVar 4) (aNil))))) (gN 5)) (sSeq (sIf (tOf (e2 fEq (eVar 5) (eC (.str "leaf")))) (sRet (eCall k__law_leaf (aCons (eVar 0) (aCons (eVar 1) (aNil))))) (sNil)) (sSeq (sAsg (eCall k__law_expression (aCons (eVar 0) (aCons (eVar 1) (aCons (e2 fSub (eVar 2) (eC (.int 1))) (aCons (eVar 3) (aNil)))))) (gN 6)) (sSeq (sIf (tOf (e2 fEq (eVar 5) (eC (.str "times")))) (sRet (eTup (aCons (eVar 5) (aCons (e2 fSub (eCall k__law_take (aCons (eVar 0) (aCons (eC (.int 19)) (aNil)))) (eC (.int 9))) (aCons (eVar 6) (aNil)))))) (sNil)) (sSeq (sIf (tOf (e2 fEq (eVar 5) (eC (.str "by")))) (sRet (eTup (aCons (eVar 5) (aCons (eCall k__law_take (aCons (eVar 0) (aCons (eC (.int 4)) (aNil)))) (aCons (eVar 6) (aNil)))))) (sNil)) (sSeq (sAsg (eCall k__law_expression (aCons (eVar 0) (aCons (eVar 1) (aCons (e2 fSub (eVar 2) (eC (.int 1))) (aCons (eVar 3) (aNil)))))) (gN 7)) (sSeq (sIf (tOf (e2 fEq (eVar 5) (eC (.str "when")))) (sRet (eTup (aCons (eVar 5) (aCons (eCall k__law_take (aCons (eVar 0) (aCons (eC (.int 4)) (aNil)))) (aCons (eCall k__law_figure (aCons (eVar 0) (aNil))) (aCons (eVar 6) (aCons (eVar 7) (aNil)))))))) (sNil)) (sSeq (sIf (tOf (e2 fEq (eVar 5) (eC (.str "where")))) (sSeq (sAsg (eCall k__law_of (aCons (eVar 0) (aCons (eFz (lDisp (aCons (eC (.int 1)) (aCons (eC (.int 250)) (aCons (eC (.int 333)) (aCons (eC (.int 500)) (aCons (eC (.int 1000)) (aCons (e2 fAdd (eC (.int 1)) (eCall k__law_take (aCons (eVar 0) (aCons (eC (.int 1000)) (aNil))))) (aNil))))))))) (aNil)))) (gN 8)) (sRet (eTup (aCons (eVar 5) (aCons (eCall k__law_take (aCons (eVar 0) (aCons (eVar 1) (aNil)))) (aCons (eVar 8) (aCons (eVar 6) (aCons (eVar 7) (aNil))))))))) (sNil)) (sRet (eTup (aCons (eVar 5) (aCons (eVar 6) (aCons (eVar 7) (aNil)))))))))))))))
noncomputable def cc_expr : Nat → Con
  | 0 => fun _ _ => none
  | n + 1 => den 4 9 0 (b_expr c_of c_leaf (cc_expr n) c_take c_figure)
/-! drawn expressions -/
def Be : Nat → Nat
  | 0 => 10
  | l + 1 => 2 * Be l + 10
theorem CV_expr {many : Nat} (hm : 0 < many) (hm2 : many < 1000) : ∀ (l : Nat) {fuel n h : Nat} {S : Sto} {Q : D → Sto → Prop}, l < fuel → HD n S h → n + Be l ≤ 1000000 → (∀ (e : Xp) S', exOk many e → lev e ≤ l → St h (n + Be l) S S' → Q (exD e) S') →
    CV (cc_expr fuel) [.ref h, .int many, .int l, .int 1] S Q := by
  intro l
  induction l with
  | zero =>
    intro fuel n h S Q hf H hn q
    cases fuel with
    | zero => omega
    | succ fuel =>
      have hlt := H.lt
      refine CV_hand (h := h) (n := n + 10) hlt rfl ?_
      unfold b_expr
      have hn : n + 10 ≤ 1000000 := hn
      (simp_arith [])
      refine ⟨rfl, rfl, rfl, rfl, ?_⟩
      rw [if_pos (show ((0 : Nat) : Int) = 0 from rfl)]
      refine CV_leaf H (by omega) hm hm2 fun e S1 he le t1 => ?_
      exact ⟨t1.hd.mono (by omega), t1.up, .inl ⟨exD_bare e, fun S' hS => q e S' he (by omega) hS⟩⟩
  | succ l ih =>
    intro fuel n h S Q hf H hn q
    cases fuel with
    | zero => omega
    | succ fuel =>
      have hlt := H.lt
      refine CV_hand (h := h) (n := n + Be (l + 1)) hlt rfl ?_
      unfold b_expr
      have eB : Be (l + 1) = 2 * Be l + 10 := rfl
      have ez : ¬ ((l + 1 : Nat) : Int) = 0 := by omega
      have el : ((l + 1 : Nat) : Int) - 1 = (l : Int) := by omega
      (simp_arith [ez, el])
      refine ⟨rfl, rfl, rfl, rfl, ?_⟩
      have done : ∀ {e : Xp} {k : Nat} {S2 : Sto}, exOk many e → lev e ≤ l + 1 → St h k S S2 → k ≤ n + Be (l + 1) → RtH h (n + Be (l + 1)) S Q (Out.rt (exD e) S2) := fun {e k S2} he hl t hk =>
        ⟨t.hd.mono hk, t.up, .inl ⟨exD_bare e, fun S' hS => q e S' he hl hS⟩⟩
      refine CV_of H (by omega) (.inr (.inl rfl)) (by simp) (by simp) ?_ fun d S1 hd t1 => ?_
      · intro d hd
        have : ∀ x : List D, x = [D.str "sum", .str "less", .str "least", .str "most", .str "least", .str "most", .str "times", .str "by", .str "when", .str "leaf", .str "where", .str "where"] → d ∈ x → bare d = true := by
          rintro x rfl hx
          simp only [List.mem_cons, List.not_mem_nil, or_false] at hx
          rcases hx with rfl | rfl | rfl | rfl | rfl | rfl | rfl | rfl | rfl | rfl | rfl | rfl <;> rfl
        exact this _ rfl hd
      · have hd2 : d = .str "sum" ∨ d = .str "less" ∨ d = .str "least" ∨ d = .str "most" ∨ d = .str "times" ∨ d = .str "by" ∨ d = .str "when" ∨ d = .str "leaf" ∨ d = .str "where" := by
          have : ∀ x : List D, x = [D.str "sum", .str "less", .str "least", .str "most", .str "least", .str "most", .str "times", .str "by", .str "when", .str "leaf", .str "where", .str "where"] → d ∈ x → d = .str "sum" ∨ d = .str "less" ∨ d = .str "least" ∨ d = .str "most" ∨ d = .str "times" ∨ d = .str "by" ∨ d = .str "when" ∨ d = .str "leaf" ∨ d = .str "where" := by
            rintro x rfl hx
            simp only [List.mem_cons, List.not_mem_nil, or_false] at hx
            rcases hx with rfl | rfl | rfl | rfl | rfl | rfl | rfl | rfl | rfl | rfl | rfl | rfl <;> simp
          exact this _ rfl hd
        have one : ∀ {K : D → Sto → Prop}, (∀ (a : Xp) S2, exOk many a → lev a ≤ l → St h (n + 1 + Be l) S S2 → K (exD a) S2) → CV (cc_expr fuel) [.ref h, .int many, .int l, .int 1] S1 K := fun {K} k =>
          ih (by omega) t1.hd (by omega) fun a S2 ha la t2 => k a S2 ha la (t1.trans t2)
        have two : ∀ {S2 : Sto} {K : D → Sto → Prop}, St h (n + 1 + Be l) S S2 → (∀ (a : Xp) S3, exOk many a → lev a ≤ l → St h (n + 1 + Be l + Be l) S S3 → K (exD a) S3) → CV (cc_expr fuel) [.ref h, .int many, .int l, .int 1] S2 K := fun {S2 K} t2 k =>
          ih (by omega) t2.hd (by omega) fun a S3 ha la t3 => k a S3 ha la (t2.trans t3)
        rcases hd2 with rfl | rfl | rfl | rfl | rfl | rfl | rfl | rfl | rfl
        · (simp_arith [Wd])
          refine one fun a S2 ha la t2 => two t2 fun b S3 hb lb t3 => ?_
          exact ⟨rfl, done (e := .sum a b) ⟨ha, hb⟩ (by show max (lev a) (lev b) + 1 ≤ l + 1; omega) t3 (by omega)⟩
        · (simp_arith [Wd])
          refine one fun a S2 ha la t2 => two t2 fun b S3 hb lb t3 => ?_
          exact ⟨rfl, done (e := .les a b) ⟨ha, hb⟩ (by show max (lev a) (lev b) + 1 ≤ l + 1; omega) t3 (by omega)⟩
        · (simp_arith [Wd])
          refine one fun a S2 ha la t2 => two t2 fun b S3 hb lb t3 => ?_
          exact ⟨rfl, done (e := .lst a b) ⟨ha, hb⟩ (by show max (lev a) (lev b) + 1 ≤ l + 1; omega) t3 (by omega)⟩
        · (simp_arith [Wd])
          refine one fun a S2 ha la t2 => two t2 fun b S3 hb lb t3 => ?_
          exact ⟨rfl, done (e := .mst a b) ⟨ha, hb⟩ (by show max (lev a) (lev b) + 1 ≤ l + 1; omega) t3 (by omega)⟩
        · (simp_arith [Wd])
          refine one fun a S2 ha la t2 => ?_
          refine CV_take t2.hd (by omega) (by decide) (by decide) fun r S3 r0 r1 t3 => ?_
          (simp_arith [])
          exact ⟨rfl, done (e := .tim (r - 9) a) ⟨by omega, by omega, ha⟩ (by show lev a + 1 ≤ l + 1; omega) (t2.trans t3) (by omega)⟩
        · (simp_arith [Wd])
          refine one fun a S2 ha la t2 => ?_
          refine CV_take t2.hd (by omega) (by decide) (by decide) fun r S3 r0 r1 t3 => ?_
          have e : r = ((r.toNat : Nat) : Int) := by omega
          rw [e]
          exact ⟨rfl, done (e := .byr r.toNat a) ⟨by omega, ha⟩ (by show lev a + 1 ≤ l + 1; omega) (t2.trans t3) (by omega)⟩
        · (simp_arith [Wd])
          refine one fun a S2 ha la t2 => two t2 fun b S3 hb lb t3 => ?_
          refine CV_take t3.hd (by omega) (by decide) (by decide) fun r S4 r0 r1 t4 => ?_
          refine CV_figure t4.hd (by omega) fun f S5 f0 f1 t5 => ?_
          have e : r = ((r.toNat : Nat) : Int) := by omega
          rw [e]
          exact ⟨rfl, done (e := .whn r.toNat f a b) ⟨by omega, f0, f1, ha, hb⟩ (by show max (lev a) (lev b) + 1 ≤ l + 1; omega) (t3.trans (t4.trans t5)) (by omega)⟩
        · (simp_arith [Wd])
          refine CV_leaf t1.hd (by omega) hm hm2 fun e S2 he le t2 => ?_
          exact done he (by omega) (t1.trans t2) (by omega)
        · (simp_arith [Wd])
          refine one fun a S2 ha la t2 => two t2 fun b S3 hb lb t3 => ?_
          refine CV_take t3.hd (by omega) (by decide) (by decide) fun r S4 r0 r1 t4 => ?_
          (simp_arith [])
          refine ⟨rfl, CV_of t4.hd (by omega) (.inr (.inl rfl)) (by simp) (by simp) ?_ fun d S5 hd5 t5 => ?_⟩
          · intro d hd
            simp only [List.mem_cons, List.not_mem_nil, or_false] at hd
            rcases hd with rfl | rfl | rfl | rfl | rfl | rfl <;> rfl
          have hd6 : ∃ f : Int, d = .int f ∧ 1 ≤ f ∧ f ≤ 1000 := by
            simp only [List.mem_cons, List.not_mem_nil, or_false] at hd5
            rcases hd5 with rfl | rfl | rfl | rfl | rfl | rfl <;> exact ⟨_, rfl, by omega, by omega⟩
          obtain ⟨f, rfl, f0, f1⟩ := hd6
          refine CV_take t5.hd (by omega) (by omega) (by omega) fun s S6 s0 s1 t6 => ?_
          have e : s = ((s.toNat : Nat) : Int) := by omega
          rw [e]
          exact ⟨rfl, done (e := .whr s.toNat f a b) ⟨by omega, f0, f1, ha, hb⟩ (by show max (lev a) (lev b) + 1 ≤ l + 1; omega) (t3.trans (t4.trans (t5.trans t6))) (by omega)⟩
theorem SV_seqK {f g : SX} {e e' : En} {S S' : Sto} {Q : Out → Prop} (h1 : ∀ K : En → Sto → Prop, K e' S' → SV f e S (then_ Q K)) (h2 : SV g e' S' Q) : SV (sSeq f g) e S Q := SV_seq.mpr (h1 _ h2)
end Pv
set_option Elab.async false
set_option linter.all false
set_option maxRecDepth 100000
namespace Pv
open PySem PySem.Spec PyProof.Rows L2
/-! four things compared in a row -/
def tChain3 (r r' r'' : R2) (ta tb tc td : TE) : TE := fun σ H Q => ta σ H fun x H1 => tb σ H1 fun y H2 => r x y H2 fun z H3 => ∃ k, z = .bl k ∧
  (if k = true then tc σ H3 fun w' H4 => r' y w' H4 fun z' H5 => ∃ k', z' = .bl k' ∧ (if k' = true then td σ H5 fun w2 H6 => r'' w' w2 H6 Q else Q (.bl false) H5) else Q (.bl false) H3)
section
variable {X : Cx} {a b c d : Expr} {ta tb tc td : TE} {pos : Pos}
theorem pe_chain3 {op op' op2 : CmpOp} {r r' r'' : R2} (ho : OpR X (compareOp op) r) (ho' : OpR X (compareOp op') r') (ho2 : OpR X (compareOp op2) r'') (ha : PE X a ta) (hb : PE X b tb) (hc : PE X c tc) (hd : PE X d td)
    (hm : lastMarks [op, op', op2] [b, c, d] = false := by with_unfolding_all rfl) : PE X (.Compare a [op, op', op2] [b, c, d] pos) (tChain3 r r' r'' ta tb tc td) := by
  refine ⟨fun pins s σ H Q I h => ?_⟩
  refine Compare_chain (thn (ha.run pins s σ H _ I h) fun v s1 ⟨x, H1, I1, r1, q1⟩ => chain_link (thn (hb.run pins s1 σ H1 _ I1 q1) fun u s2 ⟨y, H2, I2, r2, q2⟩ =>
    thn (ho pins s2 σ H2 x y v u _ I2 r1 r2 q2) fun d s3 ⟨z, H3, I3, r3, k, e, q3⟩ => ?_)) hm
  subst e
  cases r3
  refine wpAny_truthy_bool ?_
  cases k with
  | false => exact ite_ff ⟨.bl false, H3, I3, rfl, q3⟩
  | true =>
    refine ite_tt (chain_link (thn (hc.run pins s3 σ H3 _ I3 q3) fun w' s4 ⟨z', H4, I4, r4, q4⟩ => thn (ho' pins s4 σ H4 y z' u w' _ I4 r2 r4 q4) fun d s5 ⟨z5, H5, I5, r5, k5, e5, q5⟩ => ?_))
    subst e5
    cases r5
    refine wpAny_truthy_bool ?_
    cases k5 with
    | false => exact ite_ff ⟨.bl false, H5, I5, rfl, q5⟩
    | true => exact ite_tt (chain_last (thn (hd.run pins s5 σ H5 _ I5 q5) fun w6 s6 ⟨z6, H6, I6, r6, q6⟩ => ho2 pins s6 σ H6 z' z6 w' w6 Q I6 r4 r6 q6))
theorem pt_chain3 {op op' op2 : CmpOp} {r r' r'' : R2} (ho : OpR X (compareOp op) r) (ho' : OpR X (compareOp op') r') (ho2 : OpR X (compareOp op2) r'') (ha : PE X a ta) (hb : PE X b tb) (hc : PE X c tc) (hd : PE X d td)
    (hm : lastMarks [op, op', op2] [b, c, d] = false := by with_unfolding_all rfl) : PT X (.Compare a [op, op', op2] [b, c, d] pos) (tTest (tChain3 r r' r'' ta tb tc td)) := by
  refine ⟨fun pins s σ H Q I h => ?_⟩
  refine isTrue_chain (thn (ha.run pins s σ H _ I h) fun v s1 ⟨x, H1, I1, r1, q1⟩ => test_link (thn (hb.run pins s1 σ H1 _ I1 q1) fun u s2 ⟨y, H2, I2, r2, q2⟩ =>
    thn (ho pins s2 σ H2 x y v u _ I2 r1 r2 q2) fun d s3 ⟨z, H3, I3, r3, k, e, q3⟩ => ?_)) hm
  subst e
  cases r3
  refine wpAny_truthy_bool ?_
  cases k with
  | false =>
    obtain ⟨k', e', q'⟩ := q3
    cases e'
    exact ite_ff ⟨H3, I3, q'⟩
  | true =>
    refine ite_tt (test_link (thn (hc.run pins s3 σ H3 _ I3 q3) fun w' s4 ⟨z', H4, I4, r4, q4⟩ => thn (ho' pins s4 σ H4 y z' u w' _ I4 r2 r4 q4) fun d' s5 ⟨z2, H5, I5, r5, k2, e2, q5⟩ => ?_))
    subst e2
    cases r5
    refine wpAny_truthy_bool ?_
    cases k2 with
    | false =>
      obtain ⟨k', e', q'⟩ := q5
      cases e'
      exact ite_ff ⟨H5, I5, q'⟩
    | true =>
      refine ite_tt (test_last (thn (hd.run pins s5 σ H5 _ I5 q5) fun w6 s6 ⟨z6, H6, I6, r6, q6⟩ => thn (ho2 pins s6 σ H6 z' z6 w' w6 _ I6 r4 r6 q6) fun d' s7 ⟨z7, H7, I7, r7, k7, e7, q7⟩ => ?_))
      subst e7
      cases r7
      exact wpAny_truthy_bool ⟨H7, I7, q7⟩
end
def eChain3 (f g h : F2) (a b c d : EX) : EX := fun e S => (a e S).bind fun p => (b e p.2).bind fun q => (f q.2 p.1 q.1).bind fun t => match t with
  | .bl true => (c e q.2).bind fun r => (g r.2 q.1 r.1).bind fun t2 => match t2 with
    | .bl true => (d e r.2).bind fun u => (h u.2 r.1 u.1).map fun v => (v, u.2)
    | .bl false => some (.bl false, r.2)
    | _ => none
  | .bl false => some (.bl false, q.2)
  | _ => none
section
variable {fa fb fc fd : EX}
theorem te_chain3 {K : PySem.W.Frag} {f g h : F2} {σ : L2.St} {H : Hp} {Q : VK} (hh : tE K (eChain3 f g h fa fb fc fd) σ H Q) : tChain3 (r2 K f) (r2 K g) (r2 K h) (tE K fa) (tE K fb) (tE K fc) (tE K fd) σ H Q := by
  obtain ⟨Z, m, env, v, S', e, s, er, hf, q⟩ := hh
  unfold eChain3 at hf
  obtain ⟨⟨x, S1⟩, h1, hf⟩ := Option.bind_eq_some_iff.mp hf
  obtain ⟨⟨y, S2⟩, h2, hf⟩ := Option.bind_eq_some_iff.mp hf
  obtain ⟨t, h3, hf⟩ := Option.bind_eq_some_iff.mp hf
  refine ⟨Z, m, env, x, S1, e, s, er, h1, fun m1 vx e1 t1 rx => ?_⟩
  refine ⟨Z, m1, env, y, S2, rfl, t1.si, er.tr s t1, by rw [e1]; exact h2, fun m2 vy e2 t2 ry => ?_⟩
  refine ⟨Z, m2, x, y, t, rfl, t2.si, t2.rep t1.si rx, ry, by rw [e2]; exact h3, fun m3 w e3 t3 rw => ?_⟩
  have t03 := (t1.trans s t2).trans s t3
  cases t <;> first | exact no2 hf | skip
  rename_i b
  refine ⟨b, rw, ?_⟩
  cases b with
  | true =>
    obtain ⟨⟨z, S3⟩, h4, hf⟩ := Option.bind_eq_some_iff.mp (show (fc env S2).bind _ = _ from hf)
    obtain ⟨t4, h5, hf⟩ := Option.bind_eq_some_iff.mp hf
    refine ⟨Z, m3, env, z, S3, rfl, t3.si, er.tr s t03, by rw [e3, e2]; exact h4, fun m4 vz e4 t4' rz => ?_⟩
    refine ⟨Z, m4, y, z, t4, rfl, t4'.si, t4'.rep t3.si (t3.rep t2.si ry), rz, by rw [e4]; exact h5, fun m5 u e5 t5 ru => ?_⟩
    have t05 := (t03.trans s t4').trans s t5
    cases t4 <;> first | exact no2 hf | skip
    rename_i b2
    refine ⟨b2, ru, ?_⟩
    cases b2 with
    | true =>
      obtain ⟨⟨z6, S6⟩, h6, hf⟩ := Option.bind_eq_some_iff.mp (show (fd env S3).bind _ = _ from hf)
      obtain ⟨d, h7, hf⟩ := Option.map_eq_some_iff.mp hf
      simp only [Prod.mk.injEq] at hf
      obtain ⟨rfl, rfl⟩ := hf
      refine ⟨Z, m5, env, z6, S6, rfl, t5.si, er.tr s t05, by rw [e5, e4]; exact h6, fun m6 v6 e6 t6 r6 => ?_⟩
      refine ⟨Z, m6, z, z6, d, rfl, t6.si, t6.rep t5.si (t5.rep t4'.si rz), r6, by rw [e6]; exact h7, fun m7 u7 e7 t7 ru7 => ?_⟩
      exact q m7 u7 (e7.trans e6) ((t05.trans s t6).trans s t7) ru7
    | false =>
      cases hf
      exact q m5 _ (e5.trans e4) t05 rfl
  | false =>
    cases hf
    exact q m3 _ (e3.trans e2) t03 rfl
variable {X : Cx} {a b c d : Expr} {pos : Pos}
theorem ej_chain3 {op op' op2 : CmpOp} {f g h : F2} (ho : OpR X (compareOp op) (r2 X.K f)) (ho' : OpR X (compareOp op') (r2 X.K g)) (ho2 : OpR X (compareOp op2) (r2 X.K h)) (ha : EJ X a fa) (hb : EJ X b fb) (hc : EJ X c fc) (hd : EJ X d fd)
    (hm : lastMarks [op, op', op2] [b, c, d] = false := by with_unfolding_all rfl) : EJ X (.Compare a [op, op', op2] [b, c, d] pos) (eChain3 f g h fa fb fc fd) := pe_wk (pe_chain3 ho ho' ho2 ha hb hc hd hm) fun _ _ _ h => te_chain3 h
theorem tj_chain3 {op op' op2 : CmpOp} {f g h : F2} (ho : OpR X (compareOp op) (r2 X.K f)) (ho' : OpR X (compareOp op') (r2 X.K g)) (ho2 : OpR X (compareOp op2) (r2 X.K h)) (ha : EJ X a fa) (hb : EJ X b fb) (hc : EJ X c fc) (hd : EJ X d fd)
    (hm : lastMarks [op, op', op2] [b, c, d] = false := by with_unfolding_all rfl) : TJ X (.Compare a [op, op', op2] [b, c, d] pos) (tOf (eChain3 f g h fa fb fc fd)) := by
  refine pt_wk (pt_chain3 ho ho' ho2 ha hb hc hd hm) fun σ H Q ⟨Z, m, env, v, S', e, s, er, hf, q⟩ => ?_
  exact te_chain3 ⟨Z, m, env, .bl v, S', e, s, er, tOf_inv hf, fun m1 vx e1 t1 rx => ⟨v, rx, q m1 e1 t1⟩⟩
end
theorem EV_chain3 {e : En} {S : Sto} {Q : D → Sto → Prop} {f g h : F2} {a b c d : EX} : EV (eChain3 f g h a b c d) e S Q ↔ EV a e S fun x S1 => EV b e S1 fun y S2 => BV (f S2 x y) fun t => ∃ k, t = .bl k ∧
    if k = true then EV c e S2 fun z S3 => BV (g S3 y z) fun t2 => ∃ k2, t2 = .bl k2 ∧ if k2 = true then EV d e S3 fun u S4 => BV (h S4 z u) fun v => Q v S4 else Q (.bl false) S3 else Q (.bl false) S2 := by
  unfold EV eChain3 BV
  constructor
  · rintro ⟨v, S', hh, q⟩
    obtain ⟨⟨x, S1⟩, h1, hh⟩ := Option.bind_eq_some_iff.mp hh
    obtain ⟨⟨y, S2⟩, h2, hh⟩ := Option.bind_eq_some_iff.mp hh
    obtain ⟨t, h3, hh⟩ := Option.bind_eq_some_iff.mp hh
    refine ⟨x, S1, h1, y, S2, h2, t, h3, ?_⟩
    cases t <;> first | exact no2 hh | skip
    rename_i k
    refine ⟨k, rfl, ?_⟩
    cases k with
    | true =>
      obtain ⟨⟨z, S3⟩, h4, hh⟩ := Option.bind_eq_some_iff.mp (show (c e S2).bind _ = _ from hh)
      obtain ⟨t2, h5, hh⟩ := Option.bind_eq_some_iff.mp hh
      refine ⟨z, _, h4, t2, h5, ?_⟩
      cases t2 <;> first | exact no2 hh | skip
      rename_i k2
      refine ⟨k2, rfl, ?_⟩
      cases k2 with
      | true =>
        obtain ⟨⟨u, S4⟩, h6, hh⟩ := Option.bind_eq_some_iff.mp (show (d e S3).bind _ = _ from hh)
        obtain ⟨w, h7, hh⟩ := Option.map_eq_some_iff.mp hh
        cases hh
        exact ⟨u, _, h6, _, h7, q⟩
      | false => cases hh; exact q
    | false => cases hh; exact q
  · rintro ⟨x, S1, h1, y, S2, h2, t, h3, k, rfl, hh⟩
    rw [h1]
    show ∃ v S', (b e S1).bind _ = _ ∧ _
    rw [h2]
    show ∃ v S', (f S2 x y).bind _ = _ ∧ _
    rw [h3]
    cases k with
    | true =>
      obtain ⟨z, S3, h4, t2, h5, k2, rfl, hh⟩ := hh
      show ∃ v S', (c e S2).bind _ = _ ∧ _
      rw [h4]
      show ∃ v S', (g S3 y z).bind _ = _ ∧ _
      rw [h5]
      cases k2 with
      | true =>
        obtain ⟨u, S4, h6, w, h7, q⟩ := hh
        show ∃ v S', (d e S3).bind _ = _ ∧ _
        rw [h6]
        show ∃ v S', (h S4 z u).map _ = _ ∧ _
        rw [h7]
        exact ⟨_, _, rfl, q⟩
      | false => exact ⟨_, _, rfl, hh⟩
    | false => exact ⟨_, _, rfl, hh⟩
/-! range with a step -/
def rgC (i c : Int) (n : Nat) : List D := (List.range n).map fun (k : Nat) => D.int (i + (k : Int) * c)
def rg3Ok (i j c : Int) : Bool := decide (c ≠ 0) && decide (c.natAbs < 1073741824) && Builtin.Range.small i j c && decide (0 ≤ Builtin.Range.rangeSize i j c)
def iRg3 (f g h : EX) : IX := fun e S => (f e S).bind fun p => (g e p.2).bind fun q => (h e q.2).bind fun r => match p.1, q.1, r.1 with
  | .int i, .int j, .int c => if rg3Ok i j c = true then some (rgC i c (Builtin.Range.rangeSize i j c).toNat, [], r.2) else none
  | _, _, _ => none
theorem it_rgC {K : PySem.W.Frag} {m : M} {Z : List Addr} {a c : Int} {n : Nat} : ItOk K Z m (rgC a c n) [] (Itc a c n) := ⟨fun Z' m' hz hw x si gd i => by
  unfold rgC
  refine ⟨fun hi => (by rw [List.length_map, List.length_range] at hi; exact hi), fun d hd => ?_⟩
  rw [List.getElem?_map] at hd
  by_cases hi : i < n
  · rw [List.getElem?_range hi] at hd
    cases hd
    refine ⟨hi, fun y H3 ⟨e1, e2⟩ => ?_⟩
    subst e1 e2
    exact ⟨m', rfl, rfl, .refl si, rfl⟩
  · rw [List.getElem?_eq_none (by simpa using hi)] at hd
    cases hd⟩
theorem RepL.three_inv {c : C} {m : M} {d e f : D} {xs : List V} (h : RepL c m [d, e, f] xs) : ∃ x y z, xs = [x, y, z] ∧ Rep c m d x ∧ Rep c m e y ∧ Rep c m f z := by
  obtain ⟨x, r, rfl, h1, h2⟩ := h
  obtain ⟨y, z, rfl, h3, h4⟩ := h2.two_inv
  exact ⟨x, y, z, rfl, h1, h3, h4⟩
section
variable {X : Cx} {tg e e2 e3 : Expr} {f g h : EX} {p pos : Pos}
theorem ij_rg3 (hg : Gl X "range") (hm : X.mg "range" = none) (hf : EJ X e f) (k : EJ X e2 g) (k3 : EJ X e3 h) (hs : starEach [e, e2, e3] X.env = (false, eval e X.env) :: starEach [e2, e3] X.env := by rfl) (hpl : (backTo pos (starEach [e2, e3] X.env)).any (·.1) = false := by rfl)
    (hs' : starEach [e2, e3] X.env = (false, eval e2 X.env) :: starEach [e3] X.env := by rfl) (hs'' : starEach [e3] X.env = (false, eval e3 X.env) :: starEach [] X.env := by rfl) : IJ X tg (.Call (.Name "range" p) [e, e2, e3] [] pos) (iRg3 f g h) :=
  pi_wk (pi_range3 hg hm (aj_cons hf (aj_cons k (aj_cons k3 aj_nil hs'') hs') hs) hs hpl) fun σ H R ⟨Z, m, env, ds, gs, S', eH, s, er, hf, q⟩ => by
    unfold iRg3 at hf
    obtain ⟨⟨d, S1⟩, h1, hf⟩ := Option.bind_eq_some_iff.mp hf
    obtain ⟨⟨d2, S2⟩, h2, hf⟩ := Option.bind_eq_some_iff.mp hf
    obtain ⟨⟨d3, S3⟩, h3, hf⟩ := Option.bind_eq_some_iff.mp hf
    refine ⟨Z, m, env, [d, d2, d3], S3, eH, s, er, by simp [aCons, h1, h2, h3, aNil], fun m1 vx e1 t1 rx0 => ?_⟩
    obtain ⟨x, y, z, rfl, rx, ry, rz⟩ := rx0.three_inv
    cases d <;> first | exact no2 hf | skip
    cases d2 <;> first | exact no2 hf | skip
    cases d3 <;> first | exact no2 hf | skip
    obtain ⟨hz, hz2⟩ := ite_some hf
    simp only [Prod.mk.injEq] at hz2
    obtain ⟨rfl, rfl, rfl⟩ := hz2
    cases rx
    cases ry
    cases rz
    unfold rg3Ok at hz
    simp only [Bool.and_eq_true, decide_eq_true_eq] at hz
    obtain ⟨⟨⟨b1, b2⟩, b3⟩, b4⟩ := hz
    exact ⟨_, _, _, _, rfl, ⟨b1, b2, b3, (Int.toNat_of_nonneg b4).symm⟩, q m1 _ e1 t1 it_rgC⟩
end
theorem IV_rg3 {e : En} {S : Sto} {QI : List D → List Nat → Sto → Prop} {f g h : EX} : IV (iRg3 f g h) e S QI ↔ EV f e S fun d S1 => EV g e S1 fun d2 S2 => EV h e S2 fun d3 S3 => ∃ i j c, d = .int i ∧ d2 = .int j ∧ d3 = .int c ∧ rg3Ok i j c = true ∧ QI (rgC i c (Builtin.Range.rangeSize i j c).toNat) [] S3 := by
  unfold IV EV iRg3
  constructor
  · rintro ⟨ds, gs, S', hh, q⟩
    obtain ⟨⟨d, S1⟩, h1, hh⟩ := Option.bind_eq_some_iff.mp hh
    obtain ⟨⟨d2, S2⟩, h2, hh⟩ := Option.bind_eq_some_iff.mp hh
    obtain ⟨⟨d3, S3⟩, h3, hh⟩ := Option.bind_eq_some_iff.mp hh
    cases d <;> first | exact no2 hh | skip
    cases d2 <;> first | exact no2 hh | skip
    cases d3 <;> first | exact no2 hh | skip
    obtain ⟨hz, hh⟩ := ite_some hh
    cases hh
    exact ⟨_, S1, h1, _, S2, h2, _, S3, h3, _, _, _, rfl, rfl, rfl, hz, q⟩
  · rintro ⟨d, S1, h1, d2, S2, h2, d3, S3, h3, i, j, c, rfl, rfl, rfl, hz, q⟩
    exact ⟨_, _, _, by rw [h1]; show (g e S1).bind _ = _; rw [h2]; show (h e S2).bind _ = _; rw [h3]; show (if rg3Ok i j c = true then _ else _) = _; rw [if_pos hz], q⟩
/-! list(range(n)) -/
def lRg1 (f : EX) : LX := fun e S => (f e S).bind fun p => match p.1 with
  | .int j => if (decide (j ≤ 16777216) && rgOk j) = true then some (rgD 0 j, p.2) else none
  | _ => none
theorem rep_rg {c : C} {m : M} (a b : Int) : RepL c m (rgD a b) (rgV a b) := by
  unfold rgD rgV
  generalize (b - a).toNat = n
  induction n with
  | zero => exact rfl
  | succ n ih =>
    rw [List.range_succ, List.map_append, List.map_append]
    exact ih.app (RepL.one rfl)
section
variable {X : Cx} {e : Expr} {f : EX} {p p2 pos pos2 : Pos}
theorem lj_rg1 (hc : X.calm = true) (hg : Gl X "list") (hm : X.mg "list" = none) (hg2 : Gl X "range") (hm2 : X.mg "range" = none) (h : EJ X e f) (na : starEach [e] X.env = (false, eval e X.env) :: starEach [] X.env := by rfl)
    (nb : starEach [.Call (.Name "range" p) [e] [] pos] X.env = (false, eval (.Call (.Name "range" p) [e] [] pos) X.env) :: starEach [] X.env := by rfl) : LJ X (.Call (.Name "list" p2) [.Call (.Name "range" p) [e] [] pos] [] pos2) (lRg1 f) :=
  pe_wk (pe_listRg hc hg hm (prg_1 hg2 hm2 h na) nb) fun σ H Q ⟨Z, m, env, v, S', eH, s, er, hf, q⟩ => by
    unfold lRg1 at hf
    obtain ⟨⟨d, S1⟩, h1, hf⟩ := Option.bind_eq_some_iff.mp hf
    refine ⟨Z, m, env, d, S1, eH, s, er, h1, fun m1 vx e1 t1 rx => ?_⟩
    cases d <;> first | exact no2 hf | skip
    rename_i i
    obtain ⟨hz, hz2⟩ := ite_some hf
    simp only [Prod.mk.injEq] at hz2
    obtain ⟨rfl, rfl⟩ := hz2
    cases rx
    obtain ⟨hz1, hz2⟩ := Bool.and_eq_true_iff.mp hz
    have hz1 := of_decide_eq_true hz1
    obtain ⟨b1, b2⟩ := rgOk_inv hz2
    exact ⟨i, rfl, ⟨by decide, by decide, b1, b2, by omega⟩, fun l hl => q m1 l _ e1 t1 (rep_rg 0 i) hl⟩
end
theorem AV_rg1 {f : EX} {e : En} {S : Sto} {QL : List D → Sto → Prop} : AV (lRg1 f) e S QL ↔ EV f e S fun x S1 => ∃ j, x = .int j ∧ (decide (j ≤ 16777216) && rgOk j) = true ∧ QL (rgD 0 j) S1 := by
  unfold AV EV lRg1
  constructor
  · rintro ⟨v, S', h, q⟩
    obtain ⟨⟨x, S1⟩, h1, h⟩ := Option.bind_eq_some_iff.mp h
    cases x <;> first | exact no2 h | skip
    obtain ⟨hz, h⟩ := ite_some h
    cases h
    exact ⟨_, _, h1, _, rfl, hz, q⟩
  · rintro ⟨x, S1, h1, j, rfl, hz, q⟩
    exact ⟨_, _, by rw [h1]; show (if _ then _ else _) = _; rw [if_pos hz], q⟩
/-! a display of a dict, and one of its values -/
mutual
theorem Rep.hideD {m : M} {K : PySem.W.Frag} {Z : List Addr} {p : Addr} {ys : List (Key × V)} (hp : m.H p = some (.dK ys)) : ∀ (d : D) (v : V), Rep ⟨K, p :: Z⟩ m d v → Rep ⟨K, Z⟩ (m.hide p) d v
  | .non, v, h => h
  | .bl _, v, h => h
  | .int _, v, h => h
  | .str _, v, h => h
  | .tup ds, v, h => by
    obtain ⟨a, xs, e, h1, h2⟩ := h
    refine ⟨a, xs, e, ?_, RepL.hideD hp ds xs h2⟩
    rcases h1 with h1 | h1
    · have hne : a ≠ p := fun z => by
        subst z
        rcases h1 with h1 | ⟨o, h1⟩ <;> (rw [hp] at h1; cases h1)
      refine .inl ?_
      rcases h1 with h1 | ⟨o, h1⟩
      · exact .inl (by rw [M.hide_ne hne]; exact h1)
      · exact .inr ⟨o, by rw [M.hide_ne hne]; exact h1⟩
    · exact .inr h1
  | .lst ds, v, h => by
    obtain ⟨a, xs, e, ⟨h1, h3, h4⟩, h2⟩ := h
    have hne : a ≠ p := fun z => h4 (by subst z; exact List.mem_cons_self ..)
    exact ⟨a, xs, e, ⟨by rw [M.hide_ne hne]; exact h1, h3, fun z => h4 (List.mem_cons_of_mem _ z)⟩, RepL.hideD hp ds xs h2⟩
  | .rol ds, v, h => by
    obtain ⟨a, xs, e, h1, h2⟩ := h
    refine ⟨a, xs, e, ?_, RepL.hideD hp ds xs h2⟩
    rcases h1 with ⟨o, h1⟩ | h1
    · have hne : a ≠ p := fun z => by
        subst z
        rw [hp] at h1; cases h1
      exact .inl ⟨o, by rw [M.hide_ne hne]; exact h1⟩
    · exact .inr h1
  | .dic ks vs, v, h => by
    obtain ⟨a, kvs, e, ⟨h1, h3, h4⟩, h5, h2⟩ := h
    have hne : a ≠ p := fun z => h4 (by subst z; exact List.mem_cons_self ..)
    exact ⟨a, kvs, e, ⟨by rw [M.hide_ne hne]; exact h1, h3, fun z => h4 (List.mem_cons_of_mem _ z)⟩, h5, RepL.hideD hp vs _ h2⟩
  | .ref n, v, h => h
theorem RepL.hideD {m : M} {K : PySem.W.Frag} {Z : List Addr} {p : Addr} {ys : List (Key × V)} (hp : m.H p = some (.dK ys)) : ∀ (ds : List D) (vs : List V), RepL ⟨K, p :: Z⟩ m ds vs → RepL ⟨K, Z⟩ (m.hide p) ds vs
  | [], vs, h => h
  | d :: ds, vs, h => by
    obtain ⟨y, r, e, h1, h2⟩ := h
    exact ⟨y, r, e, Rep.hideD hp d y h1, RepL.hideD hp ds r h2⟩
end
theorem Sim.hideD {m : M} {K : PySem.W.Frag} {Z : List Addr} {p : Addr} {ys : List (Key × V)} (s : Sim ⟨K, p :: Z⟩ m) (hp : m.H p = some (.dK ys)) (hpz : p ∉ Z) : Sim ⟨K, Z⟩ (m.hide p) := by
  refine ⟨s.inj, fun i o h => ?_, fun z hz => ?_⟩
  · have h : m.S[i]? = some o := h
    have hb := (s.zs p (List.mem_cons_self ..)).2
    have hil : i < m.S.length := by
      rcases Nat.lt_or_ge i m.S.length with z | z
      · exact z
      · rw [List.getElem?_eq_none z] at h; cases h
    have q := s.obj i o h
    cases o with
    | lst ds =>
      obtain ⟨xs, h1, h2⟩ := q
      exact ⟨xs, by show (m.hide p).H (m.r i) = _; rw [M.hide_ne (fun e => hb ⟨i, hil, e⟩)]; exact h1, RepL.hideD hp ds xs h2⟩
  · have hz : z ∈ Z := hz
    obtain ⟨⟨o, ho⟩, hb⟩ := s.zs z (List.mem_cons_of_mem _ hz)
    exact ⟨⟨o, by rw [M.hide_ne (fun e => hpz (by rw [← e]; exact hz))]; exact ho⟩, hb⟩
theorem Sim.apartD {m : M} {K : PySem.W.Frag} {Z : List Addr} {p : Addr} {u : HO} (s : Sim ⟨K, Z⟩ m) (hp : m.H p = none) : Sim ⟨K, p :: Z⟩ ⟨m.r, m.S, upd m.H p u⟩ where
  inj := s.inj
  obj := fun i o h => by
    have q := s.obj i o h
    cases o with
    | lst ds =>
      obtain ⟨xs, h1, h2⟩ := q
      refine ⟨xs, by show upd m.H p _ _ = _; rw [upd_ne (ne_of_none h1 hp)]; exact h1, ?_⟩
      refine RepL.mono (m := m) s.bok (.laid hp) ds xs (RepL.widen (fun z hz => ?_) ds xs h2)
      rcases List.mem_cons.mp hz with e | e
      · exact .inr (e ▸ hp)
      · exact .inl e
  zs := fun z hz => by
    rcases List.mem_cons.mp hz with e | e
    · exact ⟨⟨_, by rw [e]; exact upd_same⟩, by rw [e]; exact (s.fresh hp).1⟩
    · obtain ⟨⟨o, ho⟩, hb⟩ := s.zs z e
      exact ⟨⟨o, by show upd m.H p _ _ = _; rw [upd_ne (ne_of_none ho hp)]; exact ho⟩, hb⟩
def kD : Key → D
  | .inl i => .int i
  | .inr x => .str x
/-- the values of written keys, from the left -/
def eDct (ks : List Key) (ga : AX) : EX := fun e S => (ga e S).bind fun p => if p.1.length = ks.length ∧ ks.length ≤ 15 ∧ ks.Nodup then some (.dic ks p.1, p.2) else none
structure PJ (X : Cx) (pos : Pos) (keys : List (Option Expr)) (values : List Expr) (ks : List Key) (ga : AX) : Prop where
  ex : ∃ trs, PPs X pos keys values trs ∧ ∀ σ H Q, tA X.K ga σ H (fun vs H' => Q ((ks.map kV).zip vs) H') → tPairs trs σ H Q
  len : keys.length = ks.length
  len2 : keys.length = values.length
  all : keys.all (·.isSome) = true
section
variable {X : Cx} {k v : Expr} {keys : List (Option Expr)} {values : List Expr} {ks : List Key} {ga : AX} {f : EX} {pos : Pos}
theorem pj_nil : PJ X pos [] [] [] aNil := ⟨⟨[], pps_nil, fun σ H Q ⟨Z, m, env, v, S', e, s, er, hf, q⟩ => by
  cases hf
  have := q m [] rfl (.refl s) rfl
  rw [e] at this
  exact this⟩, rfl, rfl, rfl⟩
theorem pj_cons {key : Key} (hk : EJ X k (eC (kD key))) (hv : EJ X v f) (h : PJ X pos keys values ks ga) : PJ X pos (some k :: keys) (v :: values) (key :: ks) (aCons f ga) := by
  obtain ⟨⟨trs, h1, h2⟩, h3, h4, h5⟩ := h
  refine ⟨⟨_, pps_cons hk hv h1, fun σ H Q ⟨Z, m, env, w, S', e, s, er, hf, q⟩ => ?_⟩, by simp [h3], by simp [h4], by simp [h5]⟩
  obtain ⟨x, S1, r, q1, q2, rfl⟩ := aCons_inv hf
  refine ⟨Z, m, env, kD key, m.S, e, s, er, rfl, fun m0 vk e0 t0 rk => ?_⟩
  have hvk : vk = kV key := by cases key <;> exact rk
  subst hvk
  refine ⟨Z, m0, env, x, S1, rfl, t0.si, er.tr s t0, by rw [e0]; exact q1, fun m1 vx e1 t1 rx => ?_⟩
  refine h2 _ _ _ ⟨Z, m1, env, r, S', rfl, t1.si, er.tr s (t0.trans s t1), by rw [e1]; exact q2, fun m2 vy e2 t2 ry => ?_⟩
  exact q m2 (vx :: vy) e2 ((t0.trans s t1).trans s t2) ⟨vx, vy, rfl, t2.rep t1.si rx, ry⟩
end
theorem mergeK_nodup : ∀ (kvs acc : List (Key × V)), ((acc ++ kvs).map (·.1)).Nodup → mergeK acc kvs = acc ++ kvs
  | [], acc, _ => by simp [mergeK]
  | kv :: kvs, acc, h => by
    have hn : (acc.any fun z => decide (z.1 = kv.1)) = false := by
      cases hb : acc.any fun z => decide (z.1 = kv.1) with
      | false => rfl
      | true =>
        obtain ⟨y, hy, ey⟩ := List.any_eq_true.mp hb
        have ey := of_decide_eq_true ey
        rw [List.map_append, List.nodup_append] at h
        exact absurd ey (h.2.2 _ (List.mem_map.mpr ⟨y, hy, rfl⟩) _ (List.mem_map.mpr ⟨kv, List.mem_cons_self .., rfl⟩))
    show mergeK (putK acc kv.1 kv.2) kvs = _
    unfold putK
    rw [hn, if_neg (by decide)]
    rw [mergeK_nodup kvs (acc ++ [(kv.1, kv.2)]) (by simpa using h)]
    simp
section
variable {X : Cx} {keys : List (Option Expr)} {values : List Expr} {ks : List Key} {ga : AX} {pos : Pos}
theorem zip_keys {α β : Type} : ∀ {ks : List α} {vs : List β}, vs.length = ks.length → (ks.zip vs).map (·.1) = ks ∧ (ks.zip vs).map (·.2) = vs
  | [], [], _ => ⟨rfl, rfl⟩
  | _ :: _, [], h => by simp at h
  | [], _ :: _, h => by simp at h
  | k :: ks, v :: vs, h => by
    obtain ⟨h1, h2⟩ := zip_keys (ks := ks) (vs := vs) (by simpa using h)
    exact ⟨by simp [h1], by simp [h2]⟩
theorem zip_kV : ∀ {ks : List Key} {vs : List V}, vs.length = ks.length → (ks.map kV).zip vs = (ks.zip vs).map fun kv => (kV kv.1, kv.2)
  | [], [], _ => rfl
  | _ :: _, [], h => by simp at h
  | [], _ :: _, h => by simp at h
  | k :: ks, v :: vs, h => by
    have := zip_kV (ks := ks) (vs := vs) (by simpa using h)
    simp [this]
theorem ej_dct (h : PJ X pos keys values ks ga) (h0 : keys ≠ []) (h15 : keys.length ≤ 15) : EJ X (.Dict keys values pos) (eDct ks ga) := by
  obtain ⟨⟨trs, h1, h2⟩, h3, h4, h5⟩ := h
  refine pe_wk (pe_disp h1 h5 h4 h0 h15) fun σ H Q ⟨Z, m, env, v, S', e, s, er, hf, q⟩ => ?_
  subst e
  intro p hp
  unfold eDct at hf
  obtain ⟨⟨r, S1⟩, q1, hf⟩ := Option.bind_eq_some_iff.mp hf
  obtain ⟨⟨hl, _, hnd⟩, hf⟩ := ite_some hf
  cases hf
  have hpZ : p ∉ Z := (s.fresh hp).2
  have hwz : ∀ z, z ∈ p :: Z → z ∈ Z ∨ m.H z = none := fun z hz => by
    rcases List.mem_cons.mp hz with e | e
    · exact .inr (by rw [e]; exact hp)
    · exact .inl e
  have s1 : Sim ⟨X.K, p :: Z⟩ ⟨m.r, m.S, upd m.H p (.dK [])⟩ := s.apartD hp
  have er1 : ER ⟨X.K, p :: Z⟩ ⟨m.r, m.S, upd m.H p (.dK [])⟩ env σ := (er.widen hwz).ex s.bok (.laid hp)
  refine h2 _ _ _ ⟨p :: Z, ⟨m.r, m.S, upd m.H p (.dK [])⟩, env, r, _, rfl, s1, er1, q1, fun m1 vs e1 t1 rl => ?_⟩
  have hvl : vs.length = ks.length := by rw [rl.len]; exact hl
  have hx : m1.H p = some (.dK []) := t1.ex.pr p _ upd_same (s.fresh hp).1
  obtain ⟨z1, z2⟩ := zip_keys hvl
  refine ⟨hx, ks.zip vs, ?_, ?_, ?_⟩
  · exact zip_kV hvl
  · rw [List.length_zip, hvl, Nat.min_self, ← h3]; exact h15
  · rw [mergeK_nodup _ _ (by rw [List.nil_append, z1]; exact hnd), List.nil_append]
    have hs : Sim ⟨X.K, Z⟩ (m1.hide p) := t1.si.hideD hx hpZ
    have hn : (m1.hide p).H p = none := by show (if p = p then none else m1.H p) = none; rw [if_pos rfl]
    have tt' : Tr ⟨X.K, Z⟩ m (m1.hide p) := ⟨⟨t1.ex.le, t1.ex.ag, fun a o h n => by rw [M.hide_ne (ne_of_none h hp)]; exact t1.ex.pr a o (by show upd m.H p _ a = _; rw [upd_ne (ne_of_none h hp)]; exact h) n, fun i h1 h2 => by
      have := t1.ex.nw i h1 h2
      have this : upd m.H p (.dK []) (m1.r i) = none := this
      by_cases e : m1.r i = p
      · rw [e, upd_same] at this; cases this
      · rw [upd_ne e] at this; exact this⟩, hs⟩
    have rl2 := RepL.hideD hx r vs rl
    have qq := q ⟨(m1.hide p).r, (m1.hide p).S, upd (m1.hide p).H p (.dK (ks.zip vs))⟩ (.ref p) e1 (tt'.trans s (Tr.laid hs hn)) ⟨p, ks.zip vs, rfl, ⟨upd_same, (hs.fresh hn).1, (hs.fresh hn).2⟩, z1, by rw [z2]; exact RepL.mono hs.bok (.laid hn) r vs rl2⟩
    have e : upd (m1.hide p).H p (.dK (ks.zip vs)) = upd m1.H p (.dK (ks.zip vs)) := by
      funext a
      by_cases h : a = p
      · subst h; rw [upd_same, upd_same]
      · rw [upd_ne h, upd_ne h, M.hide_ne h]
    rw [← e]
    exact qq
end
theorem EV_dct {e : En} {S : Sto} {Q : D → Sto → Prop} {ks : List Key} {ga : AX} : EV (eDct ks ga) e S Q ↔ AV ga e S fun ds S1 => (ds.length = ks.length ∧ ks.length ≤ 15 ∧ ks.Nodup) ∧ Q (.dic ks ds) S1 := by
  unfold EV AV eDct
  constructor
  · rintro ⟨v, S', h, q⟩
    obtain ⟨⟨r, S1⟩, q1, h⟩ := Option.bind_eq_some_iff.mp h
    obtain ⟨hz, h⟩ := ite_some h
    cases h
    exact ⟨r, _, q1, hz, q⟩
  · rintro ⟨r, S1, q1, hz, q⟩
    exact ⟨_, _, by rw [q1]; show (if _ then _ else _) = _; rw [if_pos hz], q⟩
def keyOf : D → Option Key
  | .int i => some (.inl i)
  | .str x => some (.inr x)
  | _ => none
def dIx (ks : List Key) (vs : List D) (k : Key) : Option D := ((ks.zip vs).find? fun z => decide (z.1 = k)).map (·.2)
/-- d[k] -/
def fDIx : F2 := fun _ a b => match a with
  | .dic ks vs => (keyOf b).bind fun k => dIx ks vs k
  | _ => none
theorem dIx_rep {c : C} {m : M} {k : Key} {d : D} : ∀ {kvs : List (Key × V)} {vs : List D}, RepL c m vs (kvs.map (·.2)) → dIx (kvs.map (·.1)) vs k = some d → ∃ v, valV kvs k = some v ∧ Rep c m d v
  | [], vs, h, e => by simp [dIx] at e
  | kv :: kvs, vs, h, e => by
    cases vs with
    | nil => simp [dIx] at e
    | cons d2 vs =>
      obtain ⟨y, r, e1, h1, h2⟩ := h
      simp only [List.map_cons, List.cons.injEq] at e1
      obtain ⟨rfl, rfl⟩ := e1
      by_cases hk : kv.1 = k
      · have : d2 = d := by simpa [dIx, hk] using e
        subst this
        exact ⟨_, valV_pos hk, h1⟩
      · have : dIx (kvs.map (·.1)) vs k = some d := by simpa [dIx, hk, List.find?_cons] using e
        obtain ⟨v, q1, q2⟩ := dIx_rep h2 this
        exact ⟨v, by rw [valV_neg hk]; exact q1, q2⟩
section
variable {X : Cx} {a b : Expr} {fa fb : EX} {pos : Pos}
theorem ej_dix (hu : X.A.units + 64 < cLine) (ha : EJ X a fa) (hb : EJ X b fb) (hs : NoSl b) : EJ X (.Subscript a b pos) (e2 fDIx fa fb) :=
  pe_wk (pe_dget (by omega) ha hb hs) fun σ H Q ⟨Z, m, env, v, S', e, s, er, hf, q⟩ => by
    unfold e2 at hf
    obtain ⟨⟨x, S1⟩, h1, h⟩ := Option.bind_eq_some_iff.mp hf
    obtain ⟨⟨y, S2⟩, h2, h⟩ := Option.bind_eq_some_iff.mp h
    obtain ⟨d, h3, h⟩ := Option.map_eq_some_iff.mp h
    cases h
    refine ⟨Z, m, env, x, S1, e, s, er, h1, fun m1 vx e1 t1 rx => ?_⟩
    refine ⟨Z, m1, env, y, S2, rfl, t1.si, er.tr s t1, by rw [e1]; exact h2, fun m2 vy e2 t2 ry => ?_⟩
    cases x <;> first | exact no2 h3 | skip
    rename_i ks vs
    obtain ⟨k, h4, h5⟩ := Option.bind_eq_some_iff.mp (show (keyOf y).bind _ = _ from h3)
    obtain ⟨p, kvs, rfl, ⟨r1, r2, r3⟩, rfl, r5⟩ := t2.rep t1.si rx
    obtain ⟨w, q1, q2⟩ := dIx_rep r5 h5
    have hy : vy = kV k := by
      cases y <;> first | exact no2 h4 | skip
      all_goals (cases h4; exact ry)
    subst hy
    exact ⟨p, w, rfl, .inl ⟨kvs, k, .inl r1, rfl, q1.symm⟩, q m2 w e2 (t1.trans s t2) q2⟩
end
/-! xs.pop(i), i from 0 on -/
def hPopI : FM := fun _ ds args => match args with
  | [.int i] => if 0 ≤ i ∧ i < 4611686018427387904 then (ds[i.toNat]?).map fun d => (d, ds.eraseIdx i.toNat) else none
  | _ => none
theorem RepL.erase {c : C} {m : M} : ∀ {ds : List D} {vs : List V} (i : Nat), RepL c m ds vs → RepL c m (ds.eraseIdx i) (vs.eraseIdx i)
  | [], vs, i, h => by rw [show vs = [] from h]; exact rfl
  | d :: ds, vs, 0, h => by
    obtain ⟨y, r, e, h1, h2⟩ := h
    subst e
    exact h2
  | d :: ds, vs, i + 1, h => by
    obtain ⟨y, r, e, h1, h2⟩ := h
    subst e
    exact ⟨y, r.eraseIdx i, rfl, h1, RepL.erase i h2⟩
theorem m_popI {X : Cx} : MtR X "list.pop" (rMt X.K hPopI) := by
  rintro pins s σ H x xs v us Q I rx rxs ⟨Z, m, n, ds, args, r, ds', rfl, si, rfl, hl, hb, ra, hf, q⟩
  match args, hf, ra with
  | [.int i], hf, ra =>
    have hf : (if 0 ≤ i ∧ i < 4611686018427387904 then (ds[i.toNat]?).map fun d => (d, ds.eraseIdx i.toNat) else none) = some (r, ds') := hf
    have hz : 0 ≤ i ∧ i < 4611686018427387904 := by
      by_cases hz : 0 ≤ i ∧ i < 4611686018427387904
      · exact hz
      · rw [if_neg hz] at hf; cases hf
    rw [if_pos hz] at hf
    obtain ⟨hz, hz2⟩ := hz
    obtain ⟨d, h1, h2⟩ := Option.map_eq_some_iff.mp hf
    simp only [Prod.mk.injEq] at h2
    obtain ⟨rfl, rfl⟩ := h2
    obtain ⟨w, rfl, rw⟩ := ra.one_inv
    cases rw
    obtain ⟨_, ys, hy, ly⟩ := si.at hb
    obtain ⟨y, e1, ry⟩ := ly.get h1
    have hlt := (List.getElem?_eq_some_iff.mp e1).1
    refine mt_popAt pins s σ m.H _ _ v us Q I rx rxs ⟨m.r n, ys, i, i.toNat, y, rfl, rfl, hy, by omega, by omega, PyProof.Rows.seqIndex_at hz (by omega), e1, ?_⟩
    have t := Tr.put si hl (ly.erase i.toNat)
    exact q (m.put n (ds.eraseIdx i.toNat) (ys.eraseIdx i.toNat)) y rfl t (t.rep si ry)
theorem ex_popI {S : Sto} {ds : List D} {i : Int} {d : D} (h0 : 0 ≤ i) (h1 : i < 4611686018427387904) (h : ds[i.toNat]? = some d) : hPopI S ds [.int i] = some (d, ds.eraseIdx i.toNat) := by
  show (if _ then _ else _) = _
  rw [if_pos ⟨h0, h1⟩, h]
  rfl
end Pv
set_option Elab.async false
set_option linter.all false
set_option maxRecDepth 100000
set_option maxHeartbeats 0
namespace Pv
open PySem PySem.Spec PyProof.Rows L2
/-! spans, leaves, borders -/
noncomputable def b_span_of_pair : SX := sSeq (sIf (tOf (e2 fEq (eVar 0) (eC (.str "sum")))) (sRet (eTup (aCons (e2 fAdd (e2 fIx (eVar 1) (eC (.int 0))) (e2 fIx (eVar 2) (eC (.int 0)))) (aCons (e2 fAdd (e2 fIx (eVar 1) (eC (.int 1))) (e2 fIx (eVar 2) (eC (.int 1)))) (aNil))))) (sNil)) (sSeq (sIf (tOf (e2 fEq (eVar 0) (eC (.str "less")))) (sRet (eTup (aCons (e2 fSub (e2 fIx (eVar 1) (eC (.int 0))) (e2 fIx (eVar 2) (eC (.int 1)))) (aCons (e2 fSub (e2 fIx (eVar 1) (eC (.int 1))) (e2 fIx (eVar 2) (eC (.int 0)))) (aNil))))) (sNil)) (sSeq (sIf (tOf (e2 fEq (eVar 0) (eC (.str "least")))) (sRet (eTup (aCons (eCB (fn2 gMin2) (aCons (e2 fIx (eVar 1) (eC (.int 0))) (aCons (e2 fIx (eVar 2) (eC (.int 0))) (aNil)))) (aCons (eCB (fn2 gMin2) (aCons (e2 fIx (eVar 1) (eC (.int 1))) (aCons (e2 fIx (eVar 2) (eC (.int 1))) (aNil)))) (aNil))))) (sNil)) (sSeq (sIf (tOf (e2 fEq (eVar 0) (eC (.str "most")))) (sRet (eTup (aCons (eCB (fn2 gMax2) (aCons (e2 fIx (eVar 1) (eC (.int 0))) (aCons (e2 fIx (eVar 2) (eC (.int 0))) (aNil)))) (aCons (eCB (fn2 gMax2) (aCons (e2 fIx (eVar 1) (eC (.int 1))) (aCons (e2 fIx (eVar 2) (eC (.int 1))) (aNil)))) (aNil))))) (sNil)) (sRet (eTup (aCons (eCB (fn2 gMin2) (aCons (e2 fIx (eVar 1) (eC (.int 0))) (aCons (e2 fIx (eVar 2) (eC (.int 0))) (aNil)))) (aCons (eCB (fn2 gMax2) (aCons (e2 fIx (eVar 1) (eC (.int 1))) (aCons (e2 fIx (eVar 2) (eC (.int 1))) (aNil)))) (aNil))))))))
noncomputable def b_span (k_span k_span_of_pair : Con) : SX := sSeq (sAsg (e2 fIx (eVar 0) (eC (.int 0))) (gN 1)) (sSeq (sIf (tOf (e2 fEq (eVar 1) (eC (.str "fig")))) (sRet (eTup (aCons (e2 fIx (eVar 0) (eC (.int 1))) (aCons (e2 fIx (eVar 0) (eC (.int 1))) (aNil))))) (sNil)) (sSeq (sIf (tOf (e2 fIn (eVar 1) (eTup (aCons (eC (.str "reg")) (aCons (eC (.str "share")) (aNil)))))) (sRet (eIf (tOf (e2 fEq (eVar 1) (eC (.str "reg")))) (eTup (aCons (e1 fNeg (eC (.int 1000))) (aCons (eC (.int 1000)) (aNil)))) (eTup (aCons (eC (.int 0)) (aCons (eC (.int 1000)) (aNil)))))) (sNil)) (sSeq (sIf (tOf (e2 fEq (eVar 1) (eC (.str "times")))) (sSeq (sAsgL false (lLc (iSeq (eCall k_span (aCons (e2 fIx (eVar 0) (eC (.int 2))) (aNil)))) (gN 4) (tYes') (e2 fMul (e2 fIx (eVar 0) (eC (.int 1))) (eVar 4)) [4]) 2) (sRet (eTup (aCons (eCB (fn1 gMin1) (aCons (eVar 2) (aNil))) (aCons (eCB (fn1 gMax1) (aCons (eVar 2) (aNil))) (aNil)))))) (sNil)) (sSeq (sIf (tOf (e2 fEq (eVar 1) (eC (.str "by")))) (sSeq (sAsg (eCB (fn1 gMax1) (aCons (eFz (lLc (iSeq (eCall k_span (aCons (e2 fIx (eVar 0) (eC (.int 2))) (aNil)))) (gN 4) (tYes') (eCB (fn1 gAbs) (aCons (eVar 4) (aNil))) [4])) (aNil))) (gN 3)) (sRet (eTup (aCons (e2 fMul (e1 fNeg (eC (.int 1000))) (eVar 3)) (aCons (e2 fMul (eC (.int 1000)) (eVar 3)) (aNil)))))) (sNil)) (sRet (eCall k_span_of_pair (aCons (eVar 1) (aCons (eCall k_span (aCons (e2 fIx (eVar 0) (e1 fNeg (eC (.int 2)))) (aNil))) (aCons (eCall k_span (aCons (e2 fIx (eVar 0) (e1 fNeg (eC (.int 1)))) (aNil))) (aNil))))))))))
noncomputable def b_counted (k_counted : Con) : SX := sSeq (sAsg (e2 fIx (eVar 0) (eC (.int 0))) (gN 1)) (sSeq (sIf (tOf (e2 fIn (eVar 1) (eTup (aCons (eC (.str "fig")) (aCons (eC (.str "reg")) (aCons (eC (.str "share")) (aNil))))))) (sRet (eTup (aCons (eC (.int 1)) (aCons (eC (.int 0)) (aNil))))) (sNil)) (sSeq (sIf (tOf (e2 fIn (eVar 1) (eTup (aCons (eC (.str "times")) (aCons (eC (.str "by")) (aNil)))))) (sRet (eCall k_counted (aCons (e2 fIx (eVar 0) (eC (.int 2))) (aNil)))) (sNil)) (sSeq (sPar 2 3 (aCons (eCall k_counted (aCons (e2 fIx (eVar 0) (e1 fNeg (eC (.int 2)))) (aNil))) (aCons (eCall k_counted (aCons (e2 fIx (eVar 0) (e1 fNeg (eC (.int 1)))) (aNil))) (aNil)))) (sSeq (sIf (tOf (e2 fIn (eVar 1) (eTup (aCons (eC (.str "sum")) (aCons (eC (.str "less")) (aNil)))))) (sRet (eTup (aCons (e2 fMul (e2 fIx (eVar 2) (eC (.int 0))) (e2 fIx (eVar 3) (eC (.int 0)))) (aCons (e2 fAdd (e2 fIx (eVar 2) (eC (.int 1))) (e2 fIx (eVar 3) (eC (.int 1)))) (aNil))))) (sNil)) (sSeq (sIf (tOf (e2 fIn (eVar 1) (eTup (aCons (eC (.str "least")) (aCons (eC (.str "most")) (aNil)))))) (sRet (eTup (aCons (e2 fAdd (e2 fIx (eVar 2) (eC (.int 0))) (e2 fIx (eVar 3) (eC (.int 0)))) (aCons (e2 fAdd (e2 fAdd (e2 fIx (eVar 2) (eC (.int 1))) (e2 fIx (eVar 3) (eC (.int 1)))) (e2 fMul (e2 fIx (eVar 2) (eC (.int 0))) (e2 fIx (eVar 3) (eC (.int 0))))) (aNil))))) (sNil)) (sSeq (sIf (tOf (e2 fEq (eVar 1) (eC (.str "where")))) (sRet (eTup (aCons (e2 fAdd (e2 fIx (eVar 2) (eC (.int 0))) (e2 fIx (eVar 3) (eC (.int 0)))) (aCons (e2 fAdd (e2 fAdd (e2 fIx (eVar 2) (eC (.int 1))) (e2 fIx (eVar 3) (eC (.int 1)))) (eC (.int 1))) (aNil))))) (sNil)) (sRet (eTup (aCons (eCB (fn2 gMax2) (aCons (e2 fIx (eVar 2) (eC (.int 0))) (aCons (e2 fIx (eVar 3) (eC (.int 0))) (aNil)))) (aCons (eCB (fn2 gMax2) (aCons (e2 fIx (eVar 2) (eC (.int 1))) (aCons (e2 fIx (eVar 3) (eC (.int 1))) (aNil)))) (aNil)))))))))))
noncomputable def b_leaves (k_counted : Con) : SX := sRet (e2 fIx (eCall k_counted (aCons (eVar 0) (aNil))) (eC (.int 0)))
noncomputable def b_borders (k_counted : Con) : SX := sRet (e2 fIx (eCall k_counted (aCons (eVar 0) (aNil))) (eC (.int 1)))
noncomputable def c_span_of_pair : Con := den 3 3 0 b_span_of_pair
noncomputable def cc_span : Nat → Con
  | 0 => fun _ _ => none
  | n + 1 => den 1 5 0 (b_span (cc_span n) c_span_of_pair)
noncomputable def cc_counted : Nat → Con
  | 0 => fun _ _ => none
  | n + 1 => den 1 4 0 (b_counted (cc_counted n))
theorem LV_fold {g : GX} {tt : TX} {te : EX} {gs : List Nat} {S0 : Sto} {e0 : En} {ds : List D} {S : Sto} {P : List D → Sto → Prop} : (∃ out S2, lcL g tt te gs S0 e0 ds S = some (out, S2) ∧ P out S2) ↔ LV g tt te gs S0 e0 ds S P := Iff.rfl
theorem stay_nil {P : Nat → Prop} : (∀ n, n ∈ ([] : List Nat) → P n) = True := by simp
theorem sz_0 : szOk 0 = true := rfl
theorem sz_1 : szOk 1 = true := rfl
theorem sz_2 : szOk 2 = true := rfl
theorem sz_3 : szOk 3 = true := rfl
theorem sz_4 : szOk 4 = true := rfl
theorem sz_5 : szOk 5 = true := rfl
theorem sz_6 : szOk 6 = true := rfl
theorem m2_2 {a b : D} : atI [a, b] (-2) = some a := rfl
theorem m1_2 {a b : D} : atI [a, b] (-1) = some b := rfl
theorem m2_3 {a b c : D} : atI [a, b, c] (-2) = some b := rfl
theorem m1_3 {a b c : D} : atI [a, b, c] (-1) = some c := rfl
theorem m2_5 {a b c d e : D} : atI [a, b, c, d, e] (-2) = some d := rfl
theorem m1_5 {a b c d e : D} : atI [a, b, c, d, e] (-1) = some e := rfl
theorem r_in3 {S : Sto} {u a b c : Str} : fIn S (.str u) (.tup [.str a, .str b, .str c]) = some (.bl (a == u || (b == u || (c == u || false)))) := rfl
theorem r_in2 {S : Sto} {u a b : Str} : fIn S (.str u) (.tup [.str a, .str b]) = some (.bl (a == u || (b == u || false))) := rfl
theorem r_min2L {S : Sto} {a b : Int} : gMin1 S (.lst [.int a, .int b]) = some (.int (if b < a then b else a)) := by
  show some (D.int (min a b)) = _
  congr 2
  split <;> omega
theorem r_max2L {S : Sto} {a b : Int} : gMax1 S (.lst [.int a, .int b]) = some (.int (if b > a then b else a)) := by
  show some (D.int (max a b)) = _
  congr 2
  split <;> omega
def sp : Xp → Int × Int
  | .fig n => (n, n)
  | .reg _ => (-1000, 1000)
  | .shr _ => (0, 1000)
  | .tim n a => (if n * (sp a).2 < n * (sp a).1 then n * (sp a).2 else n * (sp a).1, if n * (sp a).2 > n * (sp a).1 then n * (sp a).2 else n * (sp a).1)
  | .byr _ a => (-1000 * (if (if (sp a).2 < 0 then -(sp a).2 else (sp a).2) > (if (sp a).1 < 0 then -(sp a).1 else (sp a).1) then (if (sp a).2 < 0 then -(sp a).2 else (sp a).2) else (if (sp a).1 < 0 then -(sp a).1 else (sp a).1)),
      1000 * (if (if (sp a).2 < 0 then -(sp a).2 else (sp a).2) > (if (sp a).1 < 0 then -(sp a).1 else (sp a).1) then (if (sp a).2 < 0 then -(sp a).2 else (sp a).2) else (if (sp a).1 < 0 then -(sp a).1 else (sp a).1)))
  | .whn _ _ a b => (if (sp b).1 < (sp a).1 then (sp b).1 else (sp a).1, if (sp b).2 > (sp a).2 then (sp b).2 else (sp a).2)
  | .whr _ _ a b => (if (sp b).1 < (sp a).1 then (sp b).1 else (sp a).1, if (sp b).2 > (sp a).2 then (sp b).2 else (sp a).2)
  | .sum a b => ((sp a).1 + (sp b).1, (sp a).2 + (sp b).2)
  | .les a b => ((sp a).1 - (sp b).2, (sp a).2 - (sp b).1)
  | .lst a b => (if (sp b).1 < (sp a).1 then (sp b).1 else (sp a).1, if (sp b).2 < (sp a).2 then (sp b).2 else (sp a).2)
  | .mst a b => (if (sp b).1 > (sp a).1 then (sp b).1 else (sp a).1, if (sp b).2 > (sp a).2 then (sp b).2 else (sp a).2)
def Bs (l : Nat) : Nat := 1000 * 2000 ^ l
theorem Bs_succ (l : Nat) : Bs (l + 1) = 2000 * Bs l := by unfold Bs; rw [Nat.pow_succ', Nat.mul_left_comm]
theorem Bs_mono {l k : Nat} (h : l ≤ k) : Bs l ≤ Bs k := Nat.mul_le_mul_left _ (Nat.pow_le_pow_right (by decide) h)
theorem ifl {p : Prop} [Decidable p] {x y : Int} {k : Nat} (h1 : x.natAbs ≤ k) (h2 : y.natAbs ≤ k) : (if p then x else y).natAbs ≤ k := by split; exact h1; exact h2
theorem sp_bound {many : Nat} : ∀ e : Xp, exOk many e → (sp e).1.natAbs ≤ Bs (lev e) ∧ (sp e).2.natAbs ≤ Bs (lev e) := by
  have mul : ∀ {n x : Int} {l : Nat}, n.natAbs ≤ 1000 → x.natAbs ≤ Bs l → (n * x).natAbs ≤ Bs (l + 1) := fun {n x l} h1 h2 => by
    rw [Int.natAbs_mul, Bs_succ]
    have := Nat.mul_le_mul h1 h2
    omega
  have b0 : Bs 0 = 1000 := rfl
  intro e
  induction e with
  | fig n => intro h; obtain ⟨h1, h2⟩ := h; exact ⟨by show n.natAbs ≤ 1000; omega, by show n.natAbs ≤ 1000; omega⟩
  | reg i => intro h; exact ⟨(by decide : (-1000 : Int).natAbs ≤ Bs 0), (by decide : (1000 : Int).natAbs ≤ Bs 0)⟩
  | shr i => intro h; exact ⟨(by decide : (0 : Int).natAbs ≤ Bs 0), (by decide : (1000 : Int).natAbs ≤ Bs 0)⟩
  | tim n a ih =>
    intro h
    obtain ⟨h1, h2, h3⟩ := h
    obtain ⟨i1, i2⟩ := ih h3
    exact ⟨ifl (mul (by omega) i2) (mul (by omega) i1), ifl (mul (by omega) i2) (mul (by omega) i1)⟩
  | byr i a ih =>
    intro h
    obtain ⟨h1, h3⟩ := h
    obtain ⟨i1, i2⟩ := ih h3
    have j1 : (if (sp a).1 < 0 then -(sp a).1 else (sp a).1).natAbs ≤ Bs (lev a) := ifl (by omega) i1
    have j2 : (if (sp a).2 < 0 then -(sp a).2 else (sp a).2).natAbs ≤ Bs (lev a) := ifl (by omega) i2
    exact ⟨mul (by decide) (ifl j2 j1), mul (by decide) (ifl j2 j1)⟩
  | whn i f a b iha ihb =>
    intro h
    obtain ⟨h1, h2, h3, h4, h5⟩ := h
    obtain ⟨i1, i2⟩ := iha h4
    obtain ⟨j1, j2⟩ := ihb h5
    have m1 := Bs_mono (show lev a ≤ max (lev a) (lev b) + 1 by omega)
    have m2 := Bs_mono (show lev b ≤ max (lev a) (lev b) + 1 by omega)
    exact ⟨ifl (Nat.le_trans j1 m2) (Nat.le_trans i1 m1), ifl (Nat.le_trans j2 m2) (Nat.le_trans i2 m1)⟩
  | whr i f a b iha ihb =>
    intro h
    obtain ⟨h1, h2, h3, h4, h5⟩ := h
    obtain ⟨i1, i2⟩ := iha h4
    obtain ⟨j1, j2⟩ := ihb h5
    have m1 := Bs_mono (show lev a ≤ max (lev a) (lev b) + 1 by omega)
    have m2 := Bs_mono (show lev b ≤ max (lev a) (lev b) + 1 by omega)
    exact ⟨ifl (Nat.le_trans j1 m2) (Nat.le_trans i1 m1), ifl (Nat.le_trans j2 m2) (Nat.le_trans i2 m1)⟩
  | sum a b iha ihb =>
    intro h
    obtain ⟨i1, i2⟩ := iha h.1
    obtain ⟨j1, j2⟩ := ihb h.2
    have m1 := Bs_mono (show lev a ≤ max (lev a) (lev b) by omega)
    have m2 := Bs_mono (show lev b ≤ max (lev a) (lev b) by omega)
    have m3 := Bs_succ (max (lev a) (lev b))
    show ((sp a).1 + (sp b).1).natAbs ≤ Bs (max (lev a) (lev b) + 1) ∧ ((sp a).2 + (sp b).2).natAbs ≤ Bs (max (lev a) (lev b) + 1)
    omega
  | les a b iha ihb =>
    intro h
    obtain ⟨i1, i2⟩ := iha h.1
    obtain ⟨j1, j2⟩ := ihb h.2
    have m1 := Bs_mono (show lev a ≤ max (lev a) (lev b) by omega)
    have m2 := Bs_mono (show lev b ≤ max (lev a) (lev b) by omega)
    have m3 := Bs_succ (max (lev a) (lev b))
    show ((sp a).1 - (sp b).2).natAbs ≤ Bs (max (lev a) (lev b) + 1) ∧ ((sp a).2 - (sp b).1).natAbs ≤ Bs (max (lev a) (lev b) + 1)
    omega
  | lst a b iha ihb =>
    intro h
    obtain ⟨i1, i2⟩ := iha h.1
    obtain ⟨j1, j2⟩ := ihb h.2
    have m1 := Bs_mono (show lev a ≤ max (lev a) (lev b) + 1 by omega)
    have m2 := Bs_mono (show lev b ≤ max (lev a) (lev b) + 1 by omega)
    exact ⟨ifl (Nat.le_trans j1 m2) (Nat.le_trans i1 m1), ifl (Nat.le_trans j2 m2) (Nat.le_trans i2 m1)⟩
  | mst a b iha ihb =>
    intro h
    obtain ⟨i1, i2⟩ := iha h.1
    obtain ⟨j1, j2⟩ := ihb h.2
    have m1 := Bs_mono (show lev a ≤ max (lev a) (lev b) + 1 by omega)
    have m2 := Bs_mono (show lev b ≤ max (lev a) (lev b) + 1 by omega)
    exact ⟨ifl (Nat.le_trans j1 m2) (Nat.le_trans i1 m1), ifl (Nat.le_trans j2 m2) (Nat.le_trans i2 m1)⟩
theorem ifs {p : Prop} [Decidable p] {x y : Int} (h1 : sm x) (h2 : sm y) : sm (if p then x else y) := by split; exact h1; exact h2
theorem sm_neg {x : Int} (h : sm x) : sm (-x) := by unfold sm at *; rw [Int.natAbs_neg]; exact h
theorem sp_sm {many : Nat} {e : Xp} (h : exOk many e) (hl : lev e ≤ 20) : sm (sp e).1 ∧ sm (sp e).2 := by
  obtain ⟨h1, h2⟩ := sp_bound e h
  have m := Bs_mono hl
  exact ⟨Nat.lt_of_le_of_lt (Nat.le_trans h1 m) (by decide +kernel), Nat.lt_of_le_of_lt (Nat.le_trans h2 m) (by decide +kernel)⟩
def spnD (e : Xp) : D := .tup [.int (sp e).1, .int (sp e).2]
theorem CV_pair {w : Str} {a b : Int × Int} {S : Sto} {Q : D → Sto → Prop} {r : D} (hw : w = "sum" ∧ r = .tup [.int (a.1 + b.1), .int (a.2 + b.2)] ∨ w = "less" ∧ r = .tup [.int (a.1 - b.2), .int (a.2 - b.1)] ∨
    w = "least" ∧ r = .tup [.int (if b.1 < a.1 then b.1 else a.1), .int (if b.2 < a.2 then b.2 else a.2)] ∨ w = "most" ∧ r = .tup [.int (if b.1 > a.1 then b.1 else a.1), .int (if b.2 > a.2 then b.2 else a.2)] ∨
    (w = "when" ∨ w = "where") ∧ r = .tup [.int (if b.1 < a.1 then b.1 else a.1), .int (if b.2 > a.2 then b.2 else a.2)]) (q : Q r S) : CV c_span_of_pair [.str w, .tup [.int a.1, .int a.2], .tup [.int b.1, .int b.2]] S Q := by
  refine CV_plain rfl ?_
  unfold b_span_of_pair
  rcases hw with ⟨rfl, rfl⟩ | ⟨rfl, rfl⟩ | ⟨rfl, rfl⟩ | ⟨rfl, rfl⟩ | ⟨rfl | rfl, rfl⟩ <;> ((simp_arith [Wd]); repeat (first | exact RtP_same rfl q | refine ⟨rfl, ?_⟩))
theorem CV_span {many : Nat} : ∀ (e : Xp) {n : Nat} {S : Sto} {Q : D → Sto → Prop}, exOk many e → lev e < n → lev e ≤ 20 → Q (spnD e) S → CV (cc_span n) [exD e] S Q := by
  intro e
  induction e with
  | fig m =>
    intro n S Q h hl hl2 q
    cases n with
    | zero => omega
    | succ n =>
      refine CV_plain rfl ?_
      unfold b_span exD
      (simp_arith! [LV_cons, LV_nil, r_seqT, gsOf])
      repeat (first | exact RtP_same rfl q | refine ⟨rfl, ?_⟩)
  | reg i =>
    intro n S Q h hl hl2 q
    cases n with
    | zero => omega
    | succ n =>
      refine CV_plain rfl ?_
      unfold b_span exD
      (simp_arith! [LV_cons, LV_nil, r_seqT, gsOf])
      repeat (first | exact RtP_same rfl q | refine ⟨rfl, ?_⟩)
  | shr i =>
    intro n S Q h hl hl2 q
    cases n with
    | zero => omega
    | succ n =>
      refine CV_plain rfl ?_
      unfold b_span exD
      (simp_arith! [LV_cons, LV_nil, r_seqT, gsOf])
      repeat (first | exact RtP_same rfl q | refine ⟨rfl, ?_⟩)
  | tim m a ih =>
    intro n S Q h hl hl2 q
    cases n with
    | zero => omega
    | succ n =>
      refine CV_plain rfl ?_
      unfold b_span exD
      obtain ⟨h1, h2, h3⟩ := h
      have l1 : lev a + 1 < n + 1 := hl
      have l2 : lev a + 1 ≤ 20 := hl2
      obtain ⟨s1, s2⟩ := sp_sm h3 (by omega)
      (simp_arith! [LV_cons, LV_nil, r_seqT, gsOf])
      refine ih h3 (by omega) (by omega) ?_
      unfold spnD
      (simp_arith! [LV_cons, LV_nil, r_seqT, gsOf])
      exact ⟨sm_mul (sm_k (by omega)) s1, sm_mul (sm_k (by omega)) s2, RtP_same rfl q⟩
  | byr i a ih =>
    intro n S Q h hl hl2 q
    cases n with
    | zero => omega
    | succ n =>
      refine CV_plain rfl ?_
      unfold b_span exD
      obtain ⟨h1, h3⟩ := h
      have l1 : lev a + 1 < n + 1 := hl
      have l2 : lev a + 1 ≤ 20 := hl2
      obtain ⟨s1, s2⟩ := sp_sm (e := .byr i a) (many := many) ⟨h1, h3⟩ hl2
      (simp_arith! [LV_cons, LV_nil, r_seqT, gsOf])
      refine ih h3 (by omega) (by omega) ?_
      unfold spnD
      (simp_arith! [LV_cons, LV_nil, r_seqT, gsOf])
      have s3 : sm (if (if (sp a).2 < 0 then -(sp a).2 else (sp a).2) > (if (sp a).1 < 0 then -(sp a).1 else (sp a).1) then (if (sp a).2 < 0 then -(sp a).2 else (sp a).2) else (if (sp a).1 < 0 then -(sp a).1 else (sp a).1)) := by
        obtain ⟨s1, s2⟩ := sp_sm h3 (by omega : lev a ≤ 20)
        exact ifs (ifs (sm_neg s2) s2) (ifs (sm_neg s1) s1)
      exact ⟨sm_mul (sm_k (by decide)) s3, sm_mul (sm_k (by decide)) s3, RtP_same rfl q⟩
  | whn i f a b iha ihb =>
    intro n S Q h hl hl2 q
    cases n with
    | zero => omega
    | succ n =>
      refine CV_plain rfl ?_
      unfold b_span exD
      obtain ⟨h1, h2, h3, h4, h5⟩ := h
      have l1 : max (lev a) (lev b) + 1 < n + 1 := hl
      have l2 : max (lev a) (lev b) + 1 ≤ 20 := hl2
      (simp_arith! [LV_cons, LV_nil, r_seqT, gsOf])
      refine iha h4 (by omega) (by omega) (ihb h5 (by omega) (by omega) ?_)
      exact CV_pair (a := sp a) (b := sp b) (.inr (.inr (.inr (.inr ⟨.inl rfl, rfl⟩)))) (RtP_same rfl q)
  | whr i f a b iha ihb =>
    intro n S Q h hl hl2 q
    cases n with
    | zero => omega
    | succ n =>
      refine CV_plain rfl ?_
      unfold b_span exD
      obtain ⟨h1, h2, h3, h4, h5⟩ := h
      have l1 : max (lev a) (lev b) + 1 < n + 1 := hl
      have l2 : max (lev a) (lev b) + 1 ≤ 20 := hl2
      (simp_arith! [LV_cons, LV_nil, r_seqT, gsOf])
      refine iha h4 (by omega) (by omega) (ihb h5 (by omega) (by omega) ?_)
      exact CV_pair (a := sp a) (b := sp b) (.inr (.inr (.inr (.inr ⟨.inr rfl, rfl⟩)))) (RtP_same rfl q)
  | sum a b iha ihb =>
    intro n S Q h hl hl2 q
    cases n with
    | zero => omega
    | succ n =>
      refine CV_plain rfl ?_
      unfold b_span exD
      have l1 : max (lev a) (lev b) + 1 < n + 1 := hl
      have l2 : max (lev a) (lev b) + 1 ≤ 20 := hl2
      (simp_arith! [LV_cons, LV_nil, r_seqT, gsOf])
      refine iha h.1 (by omega) (by omega) (ihb h.2 (by omega) (by omega) ?_)
      exact CV_pair (a := sp a) (b := sp b) (.inl ⟨rfl, rfl⟩) (RtP_same rfl q)
  | les a b iha ihb =>
    intro n S Q h hl hl2 q
    cases n with
    | zero => omega
    | succ n =>
      refine CV_plain rfl ?_
      unfold b_span exD
      have l1 : max (lev a) (lev b) + 1 < n + 1 := hl
      have l2 : max (lev a) (lev b) + 1 ≤ 20 := hl2
      (simp_arith! [LV_cons, LV_nil, r_seqT, gsOf])
      refine iha h.1 (by omega) (by omega) (ihb h.2 (by omega) (by omega) ?_)
      exact CV_pair (a := sp a) (b := sp b) (.inr (.inl ⟨rfl, rfl⟩)) (RtP_same rfl q)
  | lst a b iha ihb =>
    intro n S Q h hl hl2 q
    cases n with
    | zero => omega
    | succ n =>
      refine CV_plain rfl ?_
      unfold b_span exD
      have l1 : max (lev a) (lev b) + 1 < n + 1 := hl
      have l2 : max (lev a) (lev b) + 1 ≤ 20 := hl2
      (simp_arith! [LV_cons, LV_nil, r_seqT, gsOf])
      refine iha h.1 (by omega) (by omega) (ihb h.2 (by omega) (by omega) ?_)
      exact CV_pair (a := sp a) (b := sp b) (.inr (.inr (.inl ⟨rfl, rfl⟩))) (RtP_same rfl q)
  | mst a b iha ihb =>
    intro n S Q h hl hl2 q
    cases n with
    | zero => omega
    | succ n =>
      refine CV_plain rfl ?_
      unfold b_span exD
      have l1 : max (lev a) (lev b) + 1 < n + 1 := hl
      have l2 : max (lev a) (lev b) + 1 ≤ 20 := hl2
      (simp_arith! [LV_cons, LV_nil, r_seqT, gsOf])
      refine iha h.1 (by omega) (by omega) (ihb h.2 (by omega) (by omega) ?_)
      exact CV_pair (a := sp a) (b := sp b) (.inr (.inr (.inr (.inl ⟨rfl, rfl⟩)))) (RtP_same rfl q)
/-- leaves, borders -/
def ct : Xp → Int × Int
  | .fig _ => (1, 0)
  | .reg _ => (1, 0)
  | .shr _ => (1, 0)
  | .tim _ a => ct a
  | .byr _ a => ct a
  | .whn _ _ a b => (if (ct b).1 > (ct a).1 then (ct b).1 else (ct a).1, if (ct b).2 > (ct a).2 then (ct b).2 else (ct a).2)
  | .whr _ _ a b => ((ct a).1 + (ct b).1, (ct a).2 + (ct b).2 + 1)
  | .sum a b => ((ct a).1 * (ct b).1, (ct a).2 + (ct b).2)
  | .les a b => ((ct a).1 * (ct b).1, (ct a).2 + (ct b).2)
  | .lst a b => ((ct a).1 + (ct b).1, (ct a).2 + (ct b).2 + (ct a).1 * (ct b).1)
  | .mst a b => ((ct a).1 + (ct b).1, (ct a).2 + (ct b).2 + (ct a).1 * (ct b).1)
def ctD (e : Xp) : D := .tup [.int (ct e).1, .int (ct e).2]
/-- a bound: x with 1 ≤ leaves ≤ x, 0 ≤ borders ≤ x * x -/
def Bc : Nat → Nat
  | 0 => 2
  | l + 1 => Bc l * Bc l
theorem Bc_two (l : Nat) : 2 ≤ Bc l := by
  induction l with
  | zero => exact Nat.le_refl _
  | succ l ih => exact Nat.le_trans (by omega) (Nat.mul_le_mul ih ih)
theorem Bc_mono {l k : Nat} (h : l ≤ k) : Bc l ≤ Bc k := by
  induction h with
  | refl => exact Nat.le_refl _
  | step _ ih => exact Nat.le_trans ih (Nat.le_mul_of_pos_left _ (by have := Bc_two (by assumption); omega))
theorem ct_step {A C a1 b1 a2 b2 : Int} (hA : 1 ≤ a1) (hA2 : a1 ≤ A) (hB : 1 ≤ b1) (hB2 : b1 ≤ A) (ha : 0 ≤ a2) (ha2 : a2 + 1 ≤ A * A) (hb : 0 ≤ b2) (hb2 : b2 + 1 ≤ A * A) (h2 : 2 ≤ A) (hC : C = A * A) :
    1 ≤ a1 * b1 ∧ a1 * b1 ≤ C ∧ a1 + b1 ≤ C ∧ a1 ≤ C ∧ b1 ≤ C ∧ a2 + b2 + a1 * b1 + 1 ≤ C * C ∧ a2 + b2 + 1 + 1 ≤ C * C ∧ a2 + 1 ≤ C * C ∧ b2 + 1 ≤ C * C := by
  have p1 : a1 * b1 ≤ A * A := Int.mul_le_mul hA2 hB2 (by omega) (by omega)
  have p2 : 1 * 1 ≤ a1 * b1 := Int.mul_le_mul hA hB (by omega) (by omega)
  have p3 : 2 * A ≤ A * A := Int.mul_le_mul_of_nonneg_right h2 (by omega)
  have p4 : 4 * C ≤ C * C := Int.mul_le_mul_of_nonneg_right (by omega) (by omega)
  omega
theorem ct_bound : ∀ e : Xp, 1 ≤ (ct e).1 ∧ (ct e).1 ≤ (Bc (lev e) : Int) ∧ 0 ≤ (ct e).2 ∧ (ct e).2 + 1 ≤ (Bc (lev e) : Int) * Bc (lev e) := by
  have up : ∀ {x y : Int} {l k : Nat}, l ≤ k → 1 ≤ x ∧ x ≤ (Bc l : Int) ∧ 0 ≤ y ∧ y + 1 ≤ (Bc l : Int) * Bc l → 1 ≤ x ∧ x ≤ (Bc k : Int) ∧ 0 ≤ y ∧ y + 1 ≤ (Bc k : Int) * Bc k := fun {x y l k} h z => by
    have m := Bc_mono h
    have m2 : (Bc l : Int) * Bc l ≤ (Bc k : Int) * Bc k := Int.mul_le_mul (by omega) (by omega) (by omega) (by omega)
    omega
  have two : ∀ l, (2 : Int) ≤ Bc l := fun l => by have := Bc_two l; omega
  have sq : ∀ l, ((Bc (l + 1) : Nat) : Int) = (Bc l : Int) * Bc l := fun l => by show ((Bc l * Bc l : Nat) : Int) = _; rw [Int.natCast_mul]
  intro e
  induction e with
  | fig n => exact ⟨Int.le_refl _, (by decide : (1 : Int) ≤ (Bc 0 : Int)), Int.le_refl _, (by decide : (0 : Int) + 1 ≤ (Bc 0 : Int) * Bc 0)⟩
  | reg n => exact ⟨Int.le_refl _, (by decide : (1 : Int) ≤ (Bc 0 : Int)), Int.le_refl _, (by decide : (0 : Int) + 1 ≤ (Bc 0 : Int) * Bc 0)⟩
  | shr n => exact ⟨Int.le_refl _, (by decide : (1 : Int) ≤ (Bc 0 : Int)), Int.le_refl _, (by decide : (0 : Int) + 1 ≤ (Bc 0 : Int) * Bc 0)⟩
  | tim n a ih => exact up (Nat.le_succ _) ih
  | byr n a ih => exact up (Nat.le_succ _) ih
  | whn i f a b iha ihb =>
    obtain ⟨x1, x2, x3, x4⟩ := up (Nat.le_max_left (lev a) (lev b)) iha
    obtain ⟨y1, y2, y3, y4⟩ := up (Nat.le_max_right (lev a) (lev b)) ihb
    obtain ⟨z1, z2, z3, z4, z5, z6, z7, z8, z9⟩ := ct_step x1 x2 y1 y2 x3 x4 y3 y4 (two _) (sq (max (lev a) (lev b)))
    refine ⟨?_, ?_, ?_, ?_⟩
    · show 1 ≤ (if (ct b).1 > (ct a).1 then (ct b).1 else (ct a).1); split <;> omega
    · show (if (ct b).1 > (ct a).1 then (ct b).1 else (ct a).1) ≤ (Bc (max (lev a) (lev b) + 1) : Int); split <;> omega
    · show 0 ≤ (if (ct b).2 > (ct a).2 then (ct b).2 else (ct a).2); split <;> omega
    · show (if (ct b).2 > (ct a).2 then (ct b).2 else (ct a).2) + 1 ≤ (Bc (max (lev a) (lev b) + 1) : Int) * Bc (max (lev a) (lev b) + 1); split <;> omega
  | whr i f a b iha ihb =>
    obtain ⟨x1, x2, x3, x4⟩ := up (Nat.le_max_left (lev a) (lev b)) iha
    obtain ⟨y1, y2, y3, y4⟩ := up (Nat.le_max_right (lev a) (lev b)) ihb
    obtain ⟨z1, z2, z3, z4, z5, z6, z7, z8, z9⟩ := ct_step x1 x2 y1 y2 x3 x4 y3 y4 (two _) (sq (max (lev a) (lev b)))
    exact ⟨by show 1 ≤ (ct a).1 + (ct b).1; omega, z3, by show 0 ≤ (ct a).2 + (ct b).2 + 1; omega, z7⟩
  | sum a b iha ihb =>
    obtain ⟨x1, x2, x3, x4⟩ := up (Nat.le_max_left (lev a) (lev b)) iha
    obtain ⟨y1, y2, y3, y4⟩ := up (Nat.le_max_right (lev a) (lev b)) ihb
    obtain ⟨z1, z2, z3, z4, z5, z6, z7, z8, z9⟩ := ct_step x1 x2 y1 y2 x3 x4 y3 y4 (two _) (sq (max (lev a) (lev b)))
    exact ⟨z1, z2, by show 0 ≤ (ct a).2 + (ct b).2; omega, by show (ct a).2 + (ct b).2 + 1 ≤ (Bc (max (lev a) (lev b) + 1) : Int) * Bc (max (lev a) (lev b) + 1); omega⟩
  | les a b iha ihb =>
    obtain ⟨x1, x2, x3, x4⟩ := up (Nat.le_max_left (lev a) (lev b)) iha
    obtain ⟨y1, y2, y3, y4⟩ := up (Nat.le_max_right (lev a) (lev b)) ihb
    obtain ⟨z1, z2, z3, z4, z5, z6, z7, z8, z9⟩ := ct_step x1 x2 y1 y2 x3 x4 y3 y4 (two _) (sq (max (lev a) (lev b)))
    exact ⟨z1, z2, by show 0 ≤ (ct a).2 + (ct b).2; omega, by show (ct a).2 + (ct b).2 + 1 ≤ (Bc (max (lev a) (lev b) + 1) : Int) * Bc (max (lev a) (lev b) + 1); omega⟩
  | lst a b iha ihb =>
    obtain ⟨x1, x2, x3, x4⟩ := up (Nat.le_max_left (lev a) (lev b)) iha
    obtain ⟨y1, y2, y3, y4⟩ := up (Nat.le_max_right (lev a) (lev b)) ihb
    obtain ⟨z1, z2, z3, z4, z5, z6, z7, z8, z9⟩ := ct_step x1 x2 y1 y2 x3 x4 y3 y4 (two _) (sq (max (lev a) (lev b)))
    exact ⟨by show 1 ≤ (ct a).1 + (ct b).1; omega, z3, by show 0 ≤ (ct a).2 + (ct b).2 + (ct a).1 * (ct b).1; omega, z6⟩
  | mst a b iha ihb =>
    obtain ⟨x1, x2, x3, x4⟩ := up (Nat.le_max_left (lev a) (lev b)) iha
    obtain ⟨y1, y2, y3, y4⟩ := up (Nat.le_max_right (lev a) (lev b)) ihb
    obtain ⟨z1, z2, z3, z4, z5, z6, z7, z8, z9⟩ := ct_step x1 x2 y1 y2 x3 x4 y3 y4 (two _) (sq (max (lev a) (lev b)))
    exact ⟨by show 1 ≤ (ct a).1 + (ct b).1; omega, z3, by show 0 ≤ (ct a).2 + (ct b).2 + (ct a).1 * (ct b).1; omega, z6⟩
theorem ct_sm {e : Xp} (h : lev e ≤ 10) : sm (ct e).1 ∧ sm (ct e).2 := by
  obtain ⟨h1, h2, h3, h4⟩ := ct_bound e
  have m := Bc_mono h
  have m2 : (Bc (lev e) : Int) * Bc (lev e) ≤ (Bc 10 : Int) * Bc 10 := Int.mul_le_mul (by omega) (by omega) (by omega) (by omega)
  have k : ((Bc 10 * Bc 10 : Nat) : Int) = (Bc 10 : Int) * Bc 10 := Int.natCast_mul ..
  have k2 : Bc 10 ≤ Bc 10 * Bc 10 := Nat.le_mul_of_pos_left _ (by have := Bc_two 10; omega)
  exact ⟨sm_le (Bc 10 * Bc 10) (by omega), sm_le (Bc 10 * Bc 10) (by omega)⟩
theorem CV_counted : ∀ (e : Xp) {n : Nat} {S : Sto} {Q : D → Sto → Prop}, lev e < n → lev e ≤ 10 → Q (ctD e) S → CV (cc_counted n) [exD e] S Q := by
  intro e
  induction e with
  | fig m =>
    intro n S Q hl hl2 q
    cases n with
    | zero => omega
    | succ n =>
      refine CV_plain rfl ?_
      unfold b_counted exD
      (simp_arith! [])
      repeat (first | exact RtP_same rfl q | refine ⟨rfl, ?_⟩)
  | reg i =>
    intro n S Q hl hl2 q
    cases n with
    | zero => omega
    | succ n =>
      refine CV_plain rfl ?_
      unfold b_counted exD
      (simp_arith! [])
      repeat (first | exact RtP_same rfl q | refine ⟨rfl, ?_⟩)
  | shr i =>
    intro n S Q hl hl2 q
    cases n with
    | zero => omega
    | succ n =>
      refine CV_plain rfl ?_
      unfold b_counted exD
      (simp_arith! [])
      repeat (first | exact RtP_same rfl q | refine ⟨rfl, ?_⟩)
  | tim m a ih =>
    intro n S Q hl hl2 q
    cases n with
    | zero => omega
    | succ n =>
      refine CV_plain rfl ?_
      unfold b_counted exD
      have l1 : lev a + 1 < n + 1 := hl
      have l2 : lev a + 1 ≤ 10 := hl2
      (simp_arith! [])
      exact ih (by omega) (by omega) (RtP_same rfl q)
  | byr m a ih =>
    intro n S Q hl hl2 q
    cases n with
    | zero => omega
    | succ n =>
      refine CV_plain rfl ?_
      unfold b_counted exD
      have l1 : lev a + 1 < n + 1 := hl
      have l2 : lev a + 1 ≤ 10 := hl2
      (simp_arith! [])
      exact ih (by omega) (by omega) (RtP_same rfl q)
  | whn i f a b iha ihb =>
    intro n S Q hl hl2 q
    cases n with
    | zero => omega
    | succ n =>
      refine CV_plain rfl ?_
      unfold b_counted exD
      have l1 : max (lev a) (lev b) + 1 < n + 1 := hl
      have l2 : max (lev a) (lev b) + 1 ≤ 10 := hl2
      obtain ⟨s1, s2⟩ := ct_sm (e := a) (by omega)
      obtain ⟨s3, s4⟩ := ct_sm (e := b) (by omega)
      (simp_arith! [])
      refine iha (by omega) (by omega) (ihb (by omega) (by omega) ?_)
      unfold ctD
      (simp_arith! [])
      repeat (first | exact RtP_same rfl q | refine ⟨sm_mul s1 s3, ?_⟩)
  | whr i f a b iha ihb =>
    intro n S Q hl hl2 q
    cases n with
    | zero => omega
    | succ n =>
      refine CV_plain rfl ?_
      unfold b_counted exD
      have l1 : max (lev a) (lev b) + 1 < n + 1 := hl
      have l2 : max (lev a) (lev b) + 1 ≤ 10 := hl2
      obtain ⟨s1, s2⟩ := ct_sm (e := a) (by omega)
      obtain ⟨s3, s4⟩ := ct_sm (e := b) (by omega)
      (simp_arith! [])
      refine iha (by omega) (by omega) (ihb (by omega) (by omega) ?_)
      unfold ctD
      (simp_arith! [])
      repeat (first | exact RtP_same rfl q | refine ⟨sm_mul s1 s3, ?_⟩)
  | sum a b iha ihb =>
    intro n S Q hl hl2 q
    cases n with
    | zero => omega
    | succ n =>
      refine CV_plain rfl ?_
      unfold b_counted exD
      have l1 : max (lev a) (lev b) + 1 < n + 1 := hl
      have l2 : max (lev a) (lev b) + 1 ≤ 10 := hl2
      obtain ⟨s1, s2⟩ := ct_sm (e := a) (by omega)
      obtain ⟨s3, s4⟩ := ct_sm (e := b) (by omega)
      (simp_arith! [])
      refine iha (by omega) (by omega) (ihb (by omega) (by omega) ?_)
      unfold ctD
      (simp_arith! [])
      repeat (first | exact RtP_same rfl q | refine ⟨sm_mul s1 s3, ?_⟩)
  | les a b iha ihb =>
    intro n S Q hl hl2 q
    cases n with
    | zero => omega
    | succ n =>
      refine CV_plain rfl ?_
      unfold b_counted exD
      have l1 : max (lev a) (lev b) + 1 < n + 1 := hl
      have l2 : max (lev a) (lev b) + 1 ≤ 10 := hl2
      obtain ⟨s1, s2⟩ := ct_sm (e := a) (by omega)
      obtain ⟨s3, s4⟩ := ct_sm (e := b) (by omega)
      (simp_arith! [])
      refine iha (by omega) (by omega) (ihb (by omega) (by omega) ?_)
      unfold ctD
      (simp_arith! [])
      repeat (first | exact RtP_same rfl q | refine ⟨sm_mul s1 s3, ?_⟩)
  | lst a b iha ihb =>
    intro n S Q hl hl2 q
    cases n with
    | zero => omega
    | succ n =>
      refine CV_plain rfl ?_
      unfold b_counted exD
      have l1 : max (lev a) (lev b) + 1 < n + 1 := hl
      have l2 : max (lev a) (lev b) + 1 ≤ 10 := hl2
      obtain ⟨s1, s2⟩ := ct_sm (e := a) (by omega)
      obtain ⟨s3, s4⟩ := ct_sm (e := b) (by omega)
      (simp_arith! [])
      refine iha (by omega) (by omega) (ihb (by omega) (by omega) ?_)
      unfold ctD
      (simp_arith! [])
      repeat (first | exact RtP_same rfl q | refine ⟨sm_mul s1 s3, ?_⟩)
  | mst a b iha ihb =>
    intro n S Q hl hl2 q
    cases n with
    | zero => omega
    | succ n =>
      refine CV_plain rfl ?_
      unfold b_counted exD
      have l1 : max (lev a) (lev b) + 1 < n + 1 := hl
      have l2 : max (lev a) (lev b) + 1 ≤ 10 := hl2
      obtain ⟨s1, s2⟩ := ct_sm (e := a) (by omega)
      obtain ⟨s3, s4⟩ := ct_sm (e := b) (by omega)
      (simp_arith! [])
      refine iha (by omega) (by omega) (ihb (by omega) (by omega) ?_)
      unfold ctD
      (simp_arith! [])
      repeat (first | exact RtP_same rfl q | refine ⟨sm_mul s1 s3, ?_⟩)
noncomputable def c_leaves : Con := den 1 1 0 (b_leaves (cc_counted 14))
noncomputable def c_borders : Con := den 1 1 0 (b_borders (cc_counted 14))
theorem CV_leaves {e : Xp} {S : Sto} {Q : D → Sto → Prop} (h : lev e ≤ 10) (q : Q (.int (ct e).1) S) : CV c_leaves [exD e] S Q := by
  refine CV_plain rfl ?_
  unfold b_leaves
  (simp_arith [])
  refine CV_counted e (by omega) h ?_
  unfold ctD
  (simp_arith [])
  exact RtP_same rfl q
theorem CV_borders {e : Xp} {S : Sto} {Q : D → Sto → Prop} (h : lev e ≤ 10) (q : Q (.int (ct e).2) S) : CV c_borders [exD e] S Q := by
  refine CV_plain rfl ?_
  unfold b_borders
  (simp_arith [])
  refine CV_counted e (by omega) h ?_
  unfold ctD
  (simp_arith [])
  exact RtP_same rfl q
end Pv
set_option Elab.async false
set_option linter.all false
set_option maxRecDepth 100000
set_option maxHeartbeats 0
namespace Pv
open PySem PySem.Spec PyProof.Rows L2
/-! shared by laws over expressions -/
theorem ints_of : ∀ out : List D, (∀ y, y ∈ out → ∃ z : Int, y = .int z) → ∃ ns : List Int, out = ns.map D.int
  | [], _ => ⟨[], rfl⟩
  | y :: out, hp => by
    obtain ⟨z, rfl⟩ := hp y (List.mem_cons_self ..)
    obtain ⟨ns, rfl⟩ := ints_of out fun y hy => hp y (List.mem_cons_of_mem _ hy)
    exact ⟨z :: ns, rfl⟩
theorem ints_in {lo hi : Int} : ∀ out : List D, (∀ y, y ∈ out → ∃ z : Int, y = .int z ∧ lo ≤ z ∧ z ≤ hi) → ∃ ns : List Int, out = ns.map D.int ∧ ∀ z, z ∈ ns → lo ≤ z ∧ z ≤ hi
  | [], _ => ⟨[], rfl, fun _ h => nomatch h⟩
  | y :: out, hp => by
    obtain ⟨z, rfl, h1⟩ := hp y (List.mem_cons_self ..)
    obtain ⟨ns, rfl, h2⟩ := ints_in out fun y hy => hp y (List.mem_cons_of_mem _ hy)
    refine ⟨z :: ns, rfl, fun y hy => ?_⟩
    rcases List.mem_cons.mp hy with rfl | hy
    · exact h1
    · exact h2 y hy
theorem at_last {l : List D} {x : D} : atI (l ++ [x]) (-1) = some x := by
  unfold atI ixN
  rw [if_neg (by decide), if_pos (by simp; omega)]
  show (l ++ [x])[(-1 + (((l ++ [x]).length : Nat) : Int)).toNat]? = _
  rw [show (-1 + (((l ++ [x]).length : Nat) : Int)).toNat = l.length by simp; omega]
  simp
theorem get_last {S : Sto} {o : Ob} : (S ++ [o])[S.length]? = some o := by simp
/-- drawn shares -/
def Odds (many : Nat) (sh : List Int) : Prop := sh.length = many ∧ (∀ k, k ∈ sh → 0 ≤ k ∧ k ≤ 10 ^ 12 + 8) ∧ ∃ k, k ∈ sh ∧ k ≠ 0
theorem sum_le3 {ns : List Int} {k : Int} (h : ∀ n, n ∈ ns → 0 ≤ n ∧ n ≤ k) : ns.sum ≤ ns.length * k := by
  induction ns with
  | nil => simp
  | cons m ns ih =>
    have h1 := ih fun n hn => h n (List.mem_cons_of_mem _ hn)
    have h2 := h m (List.mem_cons_self ..)
    rw [List.sum_cons, List.length_cons]
    have : ((ns.length + 1 : Nat) : Int) * k = ns.length * k + k := by rw [Int.natCast_add, Int.add_mul]; simp
    omega
theorem Odds.ctx {many : Nat} {sh rs : List Int} (od : Odds many sh) (hm : many ≤ 3) (rl : rs.length = 4) (rb : ∀ r, r ∈ rs → -1000 ≤ r ∧ r ≤ 1000) : Ctx many rs sh := by
  refine ⟨rl, rb, od.1, fun s hs => (od.2.1 s hs).1, ?_⟩
  have h1 := sum_le3 od.2.1
  have h2 : (sh.length : Int) * (10 ^ 12 + 8) ≤ 3 * (10 ^ 12 + 8) := Int.mul_le_mul_of_nonneg_right (by have := od.1; omega) (by decide)
  omega
theorem Odds.pos {many : Nat} {sh : List Int} (od : Odds many sh) : 0 < sh.sum := by
  obtain ⟨h1, h2, k, hk, hz⟩ := od
  have := (sum_pos_mem sh fun n hn => (h2 n hn).1).2 k hk
  have := (h2 k hk).1
  omega
theorem at_ifI {p : Prop} [Decidable p] {a b : Int} : atI [D.int a, D.int b] (if p then 1 else 0) = some (D.int (if p then b else a)) := by split <;> rfl
noncomputable def b_mills : SX := sRet (e2 fDiv (e2 fMul (eC (.int 1000)) (e2 fIx (eVar 0) (eVar 1))) (eCB (fn1 gSum) (aCons (eVar 0) (aNil))))
noncomputable def c_mills : Con := den 2 2 0 b_mills
theorem CV_mills {S : Sto} {many i : Nat} {rs sh : List Int} {Q : D → Sto → Prop} (c : Ctx many rs sh) (hi : i < many) (hp : 0 < sh.sum) (q : Q (.int (1000 * sh.getD i 0 / sh.sum)) S) : CV c_mills [.tup (sh.map D.int), .int i] S Q := by
  refine CV_plain rfl ?_
  unfold b_mills
  have g : atI (sh.map D.int) (i : Int) = some (.int (sh.getD i 0)) := getD_at (by rw [c.sl]; exact hi)
  have s := c.s hi
  have t := c.tot
  (simp_arith [g])
  refine ⟨sm_mul (sm_k (by omega)) (sm_k (by omega)), sm_div (sm_k (by omega)) (by omega), RtP_same rfl ?_⟩
  rw [Int.fdiv_eq_ediv_of_nonneg _ (by omega)]
  exact q
theorem mills_lt {s t f : Int} (ht : 0 < t) : s / t < f ↔ s < f * t := Int.ediv_lt_iff_lt_mul ht
end Pv
set_option Elab.async false
set_option linter.all false
set_option maxRecDepth 100000
set_option maxHeartbeats 0
namespace Pv
open PySem PySem.Spec PyProof.Rows L2
/-! a pick out of a box; two sorted; worths lie in their spans -/
theorem CV_ofB {S : Sto} {h n p : Nat} {ds : List D} {Q : D → Sto → Prop} (H : HD n S h) (hn : n ≤ 1000000) (hp : p ≠ h) (hx : S[p]? = some (.lst ds)) (h0 : 0 < ds.length) (h1 : ds.length < 10 ^ 100) (hb : ∀ d ∈ ds, bare d = true) (q : ∀ d S', d ∈ ds → St h (n + 1) S S' → Q d S') : CV c_of [.ref h, .ref p] S Q := by
  refine CV_hand (h := h) (n := n + 1) H.lt rfl ?_
  unfold b_of
  (simp_arith [box_of hx])
  refine CV_take H hn (by omega) (by omega) fun r S' r0 r1 hS => ?_
  obtain ⟨u, u1, u2, _⟩ := at_in r0 r1
  (simp_arith [box_of (hS.box hp hx), u1])
  exact ⟨hS.hd, hS.up, .inl ⟨hb u u2, fun S'' hS2 => q u S'' u2 hS2⟩⟩
theorem r_sort2 {S : Sto} {a b : Int} : gSorted S (.lst [.int a, .int b]) = some [.int (if b < a then b else a), .int (if b > a then b else a)] := by
  show some ((sortI [a, b]).map D.int) = _
  by_cases h : b < a
  · rw [if_pos h, if_neg (by omega), ← sortI_eq (ns := [a, b]) (ns' := [b, a]) (.swap ..) (by simp; omega)]
    rfl
  · by_cases h2 : b > a
    · rw [if_neg h, if_pos h2, ← sortI_eq (ns := [a, b]) (ns' := [a, b]) (.refl _) (by simp; omega)]
      rfl
    · have : a = b := by omega
      subst this
      simp only [Int.lt_irrefl, gt_iff_lt, if_false]
      rw [← sortI_eq (ns := [a, a]) (ns' := [a, a]) (.refl _) (by simp)]
      rfl
theorem mn_le {a b : Int} : (if b < a then b else a) ≤ a ∧ (if b < a then b else a) ≤ b := by split <;> omega
theorem mx_ge {a b : Int} : a ≤ (if b > a then b else a) ∧ b ≤ (if b > a then b else a) := by split <;> omega
theorem far_ge {l h : Int} : 0 ≤ (if (if h < 0 then -h else h) > (if l < 0 then -l else l) then (if h < 0 then -h else h) else (if l < 0 then -l else l)) ∧
    -(if (if h < 0 then -h else h) > (if l < 0 then -l else l) then (if h < 0 then -h else h) else (if l < 0 then -l else l)) ≤ l ∧ h ≤ (if (if h < 0 then -h else h) > (if l < 0 then -l else l) then (if h < 0 then -h else h) else (if l < 0 then -l else l)) := by
  by_cases h1 : h < 0 <;> by_cases h2 : l < 0 <;> simp only [h1, h2, if_true, if_false] <;> split <;> omega
theorem sp_le {many : Nat} : ∀ e : Xp, exOk many e → (sp e).1 ≤ (sp e).2 := by
  intro e
  induction e with
  | fig n => intro h; exact Int.le_refl _
  | reg i => intro h; exact (by decide : (-1000 : Int) ≤ 1000)
  | shr i => intro h; exact (by decide : (0 : Int) ≤ 1000)
  | tim n a ih => intro h; simp only [sp]; split <;> split <;> omega
  | byr i a ih => intro h; obtain ⟨f0, _, _⟩ := far_ge (l := (sp a).1) (h := (sp a).2); simp only [sp]; omega
  | whn i f a b iha ihb => intro h; obtain ⟨h1, h2, h3, h4, h5⟩ := h; have := iha h4; have := ihb h5; simp only [sp]; split <;> split <;> omega
  | whr i f a b iha ihb => intro h; obtain ⟨h1, h2, h3, h4, h5⟩ := h; have := iha h4; have := ihb h5; simp only [sp]; split <;> split <;> omega
  | sum a b iha ihb => intro h; have := iha h.1; have := ihb h.2; simp only [sp]; omega
  | les a b iha ihb => intro h; have := iha h.1; have := ihb h.2; simp only [sp]; omega
  | lst a b iha ihb => intro h; have := iha h.1; have := ihb h.2; simp only [sp]; split <;> split <;> omega
  | mst a b iha ihb => intro h; have := iha h.1; have := ihb h.2; simp only [sp]; split <;> split <;> omega
/-- x lies in a stretch times t -/
def In (p : Int × Int) (t x : Int) : Prop := p.1 * t ≤ x ∧ x ≤ p.2 * t
theorem mul_abs {r w B : Int} (h1 : -1000 ≤ r) (h2 : r ≤ 1000) (h3 : -B ≤ w) (h4 : w ≤ B) : -(1000 * B) ≤ r * w ∧ r * w ≤ 1000 * B := by
  have hB : 0 ≤ B := by omega
  have a : (r * w).natAbs ≤ 1000 * B.natAbs := by rw [Int.natAbs_mul]; exact Nat.mul_le_mul (by omega) (by omega)
  omega
theorem sp_wv {many : Nat} {rs sh : List Int} (c : Ctx many rs sh) : ∀ e : Xp, exOk many e → In (sp e) sh.sum (wv rs sh e) := by
  have t := c.tot
  generalize hT : sh.sum = T at *
  have mono : ∀ {a b : Int}, a ≤ b → a * T ≤ b * T := fun h => Int.mul_le_mul_of_nonneg_right h t.1
  intro e
  induction e with
  | fig n => intro h; show n * T ≤ n * sh.sum ∧ n * sh.sum ≤ n * T; rw [hT]; omega
  | reg i => intro h; have r := c.r h; show -1000 * T ≤ rs.getD i 0 * sh.sum ∧ rs.getD i 0 * sh.sum ≤ 1000 * T; rw [hT]; exact ⟨mono r.1, mono r.2⟩
  | shr i => intro h; have s := c.s h; show 0 * T ≤ 1000 * sh.getD i 0 ∧ 1000 * sh.getD i 0 ≤ 1000 * T; omega
  | tim n a ih =>
    intro h
    obtain ⟨h1, h2, h3⟩ := h
    obtain ⟨i1, i2⟩ := ih h3
    show (if n * (sp a).2 < n * (sp a).1 then n * (sp a).2 else n * (sp a).1) * T ≤ n * wv rs sh a ∧ n * wv rs sh a ≤ (if n * (sp a).2 > n * (sp a).1 then n * (sp a).2 else n * (sp a).1) * T
    rcases Int.le_total 0 n with hn | hn
    · have j1 := Int.mul_le_mul_of_nonneg_left i1 hn
      have j2 := Int.mul_le_mul_of_nonneg_left i2 hn
      rw [← Int.mul_assoc] at j1 j2
      constructor
      · exact Int.le_trans (mono (by split <;> omega)) j1
      · exact Int.le_trans j2 (mono (by split <;> omega))
    · have j1 := Int.mul_le_mul_of_nonpos_left hn i1
      have j2 := Int.mul_le_mul_of_nonpos_left hn i2
      rw [← Int.mul_assoc] at j1 j2
      constructor
      · exact Int.le_trans (mono (by split <;> omega)) j2
      · exact Int.le_trans j1 (mono (by split <;> omega))
  | byr i a ih =>
    intro h
    obtain ⟨h1, h3⟩ := h
    obtain ⟨i1, i2⟩ := ih h3
    have r := c.r h1
    obtain ⟨f0, f1, f2⟩ := far_ge (l := (sp a).1) (h := (sp a).2)
    show -1000 * _ * T ≤ rs.getD i 0 * wv rs sh a ∧ rs.getD i 0 * wv rs sh a ≤ 1000 * _ * T
    generalize (if (if (sp a).2 < 0 then -(sp a).2 else (sp a).2) > (if (sp a).1 < 0 then -(sp a).1 else (sp a).1) then (if (sp a).2 < 0 then -(sp a).2 else (sp a).2) else (if (sp a).1 < 0 then -(sp a).1 else (sp a).1)) = far at *
    have g1 := mono f1
    have g2 := mono f2
    rw [Int.neg_mul] at g1
    obtain ⟨m1, m2⟩ := mul_abs (w := wv rs sh a) (B := far * T) r.1 r.2 (by omega) (by omega)
    rw [Int.mul_assoc, Int.mul_assoc, Int.neg_mul]
    exact ⟨m1, m2⟩
  | whn i f a b iha ihb =>
    intro h
    obtain ⟨h1, h2, h3, h4, h5⟩ := h
    obtain ⟨i1, i2⟩ := iha h4
    obtain ⟨j1, j2⟩ := ihb h5
    show (if (sp b).1 < (sp a).1 then (sp b).1 else (sp a).1) * T ≤ (if rs.getD i 0 < f then wv rs sh a else wv rs sh b) ∧ (if rs.getD i 0 < f then wv rs sh a else wv rs sh b) ≤ (if (sp b).2 > (sp a).2 then (sp b).2 else (sp a).2) * T
    obtain ⟨k1, k2⟩ := mn_le (a := (sp a).1) (b := (sp b).1)
    obtain ⟨k3, k4⟩ := mx_ge (a := (sp a).2) (b := (sp b).2)
    by_cases hc : rs.getD i 0 < f
    · rw [if_pos hc]
      exact ⟨Int.le_trans (mono k1) i1, Int.le_trans i2 (mono k3)⟩
    · rw [if_neg hc]
      exact ⟨Int.le_trans (mono k2) j1, Int.le_trans j2 (mono k4)⟩
  | whr i f a b iha ihb =>
    intro h
    obtain ⟨h1, h2, h3, h4, h5⟩ := h
    obtain ⟨i1, i2⟩ := iha h4
    obtain ⟨j1, j2⟩ := ihb h5
    show (if (sp b).1 < (sp a).1 then (sp b).1 else (sp a).1) * T ≤ (if 1000 * sh.getD i 0 < f * sh.sum then wv rs sh a else wv rs sh b) ∧ (if 1000 * sh.getD i 0 < f * sh.sum then wv rs sh a else wv rs sh b) ≤ (if (sp b).2 > (sp a).2 then (sp b).2 else (sp a).2) * T
    obtain ⟨k1, k2⟩ := mn_le (a := (sp a).1) (b := (sp b).1)
    obtain ⟨k3, k4⟩ := mx_ge (a := (sp a).2) (b := (sp b).2)
    by_cases hc : 1000 * sh.getD i 0 < f * sh.sum
    · rw [if_pos hc]
      exact ⟨Int.le_trans (mono k1) i1, Int.le_trans i2 (mono k3)⟩
    · rw [if_neg hc]
      exact ⟨Int.le_trans (mono k2) j1, Int.le_trans j2 (mono k4)⟩
  | sum a b iha ihb =>
    intro h
    obtain ⟨i1, i2⟩ := iha h.1
    obtain ⟨j1, j2⟩ := ihb h.2
    show ((sp a).1 + (sp b).1) * T ≤ wv rs sh a + wv rs sh b ∧ wv rs sh a + wv rs sh b ≤ ((sp a).2 + (sp b).2) * T
    rw [Int.add_mul, Int.add_mul]
    omega
  | les a b iha ihb =>
    intro h
    obtain ⟨i1, i2⟩ := iha h.1
    obtain ⟨j1, j2⟩ := ihb h.2
    show ((sp a).1 - (sp b).2) * T ≤ wv rs sh a - wv rs sh b ∧ wv rs sh a - wv rs sh b ≤ ((sp a).2 - (sp b).1) * T
    rw [Int.sub_mul, Int.sub_mul]
    omega
  | lst a b iha ihb =>
    intro h
    obtain ⟨i1, i2⟩ := iha h.1
    obtain ⟨j1, j2⟩ := ihb h.2
    show (if (sp b).1 < (sp a).1 then (sp b).1 else (sp a).1) * T ≤ (if wv rs sh b < wv rs sh a then wv rs sh b else wv rs sh a) ∧ (if wv rs sh b < wv rs sh a then wv rs sh b else wv rs sh a) ≤ (if (sp b).2 < (sp a).2 then (sp b).2 else (sp a).2) * T
    obtain ⟨k1, k2⟩ := mn_le (a := (sp a).1) (b := (sp b).1)
    obtain ⟨k3, k4⟩ := mn_le (a := wv rs sh a) (b := wv rs sh b)
    constructor
    · by_cases hc : wv rs sh b < wv rs sh a
      · rw [if_pos hc]; exact Int.le_trans (mono k2) j1
      · rw [if_neg hc]; exact Int.le_trans (mono k1) i1
    · by_cases hc : (sp b).2 < (sp a).2
      · rw [if_pos hc]; exact Int.le_trans k4 j2
      · rw [if_neg hc]; exact Int.le_trans k3 i2
  | mst a b iha ihb =>
    intro h
    obtain ⟨i1, i2⟩ := iha h.1
    obtain ⟨j1, j2⟩ := ihb h.2
    show (if (sp b).1 > (sp a).1 then (sp b).1 else (sp a).1) * T ≤ (if wv rs sh b > wv rs sh a then wv rs sh b else wv rs sh a) ∧ (if wv rs sh b > wv rs sh a then wv rs sh b else wv rs sh a) ≤ (if (sp b).2 > (sp a).2 then (sp b).2 else (sp a).2) * T
    obtain ⟨k1, k2⟩ := mx_ge (a := (sp a).2) (b := (sp b).2)
    obtain ⟨k3, k4⟩ := mx_ge (a := wv rs sh a) (b := wv rs sh b)
    constructor
    · by_cases hc : (sp b).1 > (sp a).1
      · rw [if_pos hc]; exact Int.le_trans j1 k4
      · rw [if_neg hc]; exact Int.le_trans i1 k3
    · by_cases hc : wv rs sh b > wv rs sh a
      · rw [if_pos hc]; exact Int.le_trans j2 (mono k2)
      · rw [if_neg hc]; exact Int.le_trans i2 (mono k1)
end Pv
set_option Elab.async false
set_option linter.all false
set_option maxRecDepth 100000
set_option maxHeartbeats 0
namespace Pv
open PySem PySem.Spec PyProof.Rows L2
/-! shown texts are texts -/
theorem ok_app {a b : Str} (h : PyData.strOk a = true) (k : PyData.strOk b = true) : PyData.strOk (a ++ b) = true := by
  show ((a.cps ++ b.cps).all _) = true
  rw [Array.all_append]
  exact Bool.and_eq_true_iff.mpr ⟨h, k⟩
theorem ok_of (s : String) : PyData.strOk (Str.ofString s) = true := by
  rw [Str.ofString_eq_toList]
  show ((s.toList.map Char.toNat).toArray.all _) = true
  rw [List.all_toArray, List.all_eq_true]
  intro n hn
  obtain ⟨c, _, rfl⟩ := List.mem_map.mp hn
  have := c.valid
  refine decide_eq_true ?_
  rcases this with h | ⟨_, h⟩
  · have h : c.toNat < 0xd800 := h
    omega
  · exact h
theorem ok_if {p : Bool} {a b : String} : PyData.strOk (Str.ofString (if p = true then a else b)) = true := ok_of _
mutual
def okD : D → Bool
  | .str x => PyData.strOk (PyData.shown (.str x))
  | .tup xs => okL xs
  | .lst xs => okL xs
  | .rol xs => okL xs
  | .dic _ _ => false
  | _ => true
def okL : List D → Bool
  | [] => true
  | d :: ds => okD d && okL ds
end
theorem ok_join : ∀ ts : List Str, (∀ t, t ∈ ts → PyData.strOk t = true) → PyData.strOk (Str.join ", " ts) = true
  | [], _ => by decide +kernel
  | [x], h => h x (by simp)
  | x :: y :: r, h => ok_app (ok_app (h x (by simp)) (ok_of _)) (ok_join (y :: r) fun t ht => h t (List.mem_cons_of_mem _ ht))
theorem ok_from : ∀ (ts : List Str) (k : Nat) (acc : Str), PyData.strOk acc = true → (∀ t, t ∈ ts → PyData.strOk t = true) → PyData.strOk (textFrom k acc ts) = true
  | [], k, acc, h, _ => h
  | t :: ts, k, acc, h, ht => ok_from ts (k + 1) _ (ok_app (ok_app h (ok_of _)) (ht t (by simp))) fun x hx => ht x (List.mem_cons_of_mem _ hx)
mutual
theorem shown_ok : ∀ d : D, okD d = true → PyData.strOk (pd d).shown = true
  | .non, _ => ok_of _
  | .bl b, _ => by cases b <;> exact ok_of _
  | .int i, _ => ok_of _
  | .str x, h => h
  | .tup xs, h => ok_app (ok_app (ok_of _) (ok_join _ (shown_okL xs h))) (ok_of _)
  | .lst xs, h => ok_app (ok_from _ _ _ (ok_of _) (shown_okL xs h)) (ok_of _)
  | .rol xs, h => ok_app (ok_from _ _ _ (ok_of _) (shown_okL xs h)) (ok_of _)
  | .dic _ _, h => nomatch h
  | .ref _, _ => ok_of _
theorem shown_okL : ∀ ds : List D, okL ds = true → ∀ t, t ∈ PyData.shownAll (pdL ds) → PyData.strOk t = true
  | [], _, t, ht => nomatch ht
  | d :: ds, h, t, ht => by
    have h := Bool.and_eq_true_iff.mp h
    rcases List.mem_cons.mp ht with rfl | ht
    · exact shown_ok d h.1
    · exact shown_okL ds h.2 t ht
end
theorem okD_ex : ∀ e : Xp, okD (exD e) = true := by
  have w1 : okD (.str "fig") = true := by decide +kernel
  have w2 : okD (.str "reg") = true := by decide +kernel
  have w3 : okD (.str "share") = true := by decide +kernel
  have w4 : okD (.str "times") = true := by decide +kernel
  have w5 : okD (.str "by") = true := by decide +kernel
  have w6 : okD (.str "when") = true := by decide +kernel
  have w7 : okD (.str "where") = true := by decide +kernel
  have w8 : okD (.str "sum") = true := by decide +kernel
  have w9 : okD (.str "less") = true := by decide +kernel
  have w10 : okD (.str "least") = true := by decide +kernel
  have w11 : okD (.str "most") = true := by decide +kernel
  have wi : ∀ {z : Int}, okD (.int z) = true := rfl
  intro e
  induction e <;> simp only [exD, okD, okL] at * <;> simp_all
/-- a thing without boxes, of any texts, equals itself -/
theorem r_eq_lay {S : Sto} {ds : List D} (h : flatL ds = true) (h2 : PyData.canLayAll0 (pdL ds) = true) (h3 : (PyData.list (pdL ds)).depth ≤ 64) : fEq S (.lst ds) (.lst ds) = some (.bl true) := by
  show ((if flat (.lst ds) = true then some (pd (.lst ds)) else none).bind fun p => (if flat (.lst ds) = true then some (pd (.lst ds)) else none).bind fun q => if (SeqAt.shaped p && SeqAt.shaped q) = true then some (D.bl (PyData.eqv p q)) else none) = _
  rw [if_pos (show flat (.lst ds) = true from h)]
  have h4 : (pd (.lst ds)).canLay0 = true := h2
  have h5 : SeqAt.shaped (pd (.lst ds)) = true := by unfold SeqAt.shaped; rw [h4, decide_eq_true (show (pd (.lst ds)).depth ≤ 64 from h3)]; rfl
  show (if (SeqAt.shaped (pd (.lst ds)) && SeqAt.shaped (pd (.lst ds))) = true then some (D.bl (PyData.eqv (pd (.lst ds)) (pd (.lst ds)))) else none) = _
  rw [h5, SeqAt.eqv_refl _ h4]
  rfl
theorem r_eq_texts {S : Sto} {a b c : Str} (h1 : PyData.strOk a = true) (h2 : PyData.strOk b = true) (h3 : PyData.strOk c = true) : fEq S (.lst [.str a, .str b, .str c]) (.lst [.str a, .str b, .str c]) = some (.bl true) := by
  refine r_eq_lay rfl ?_ ?_
  · show (PyData.strOk a && (PyData.strOk b && (PyData.strOk c && true))) = true
    rw [h1, h2, h3]
    rfl
  · show _ ≤ 64
    simp [pdL, pd, PyData.depth, PyData.depthAll]
end Pv
set_option Elab.async false
set_option linter.all false
set_option maxRecDepth 100000
set_option maxHeartbeats 1000000
namespace Pv
open PySem PySem.Spec PyProof.Rows L2
/-! zip of a list and a tuple: the library's draws, turned into a walk of this layer -/
def ItzM (K : PySem.W.Frag) (a b : Addr) (n : Nat) : It where
  go i H := ∃ (us ws : List V) (p q : V), SqL K H a us ∧ SqT K H b ws ∧ us[i]? = some p ∧ ws[i]? = some q ∧ min us.length ws.length = n
  yld i H v H' := ∃ T p q, v = .ref T ∧ H T = none ∧ H' = upd H T (.tup [p, q]) ∧ (∀ us, SqL K H a us → us[i]? = some p) ∧ ∀ ws, SqT K H b ws → ws[i]? = some q
  stop i H := n ≤ i ∧ ∃ us ws : List V, SqL K H a us ∧ SqT K H b ws ∧ min us.length ws.length = n
def zmSt (z TI TO j1 j2 a b : Addr) (n i : Nat) (h : Heap) : Prop := i ≤ n ∧ IsZip h z TI TO .none ∧ IsTupOf2 h TI (.ref j1) (.ref j2) ∧ (∃ p q, IsTupOf2 h TO p q) ∧ h.IsListIter j1 a i ∧ h.IsTupleIter j2 b i
theorem turn_zipM {P : Program} {w : World} {K : PySem.W.Frag} {elts : List Expr} {kk n : Nat} {tp : Pos} {a b z TI TO j1 j2 : Addr} (S : ZipSep2 z TI TO j1 j2 [j1, a] [j2, b]) (na : a ≠ j1) (nb : b ≠ j2) :
    Turn P w K (.Tuple elts kk tp) (ItzM K a b n) [z, TI, TO, j1, j2] z (zmSt z TI TO j1 j2 a b n) where
  mem := List.mem_cons_self ..
  obj := fun i h st c hc => by
    obtain ⟨_, g1, g2, ⟨_, _, g3⟩, ⟨o1, g4, _, g5⟩, ⟨o2, g6, _, g7⟩⟩ := st
    simp only [List.mem_cons, List.not_mem_nil, or_false] at hc
    rcases hc with rfl | rfl | rfl | rfl | rfl
    · exact ⟨_, g1, fun v y => nomatch y⟩
    · exact ⟨_, g2, fun v y => nomatch y⟩
    · exact ⟨_, g3, fun v y => nomatch y⟩
    · exact ⟨o1, g4, fun v y => by rw [g5] at y; cases y⟩
    · exact ⟨o2, g6, fun v y => by rw [g7] at y; cases y⟩
  keep := fun i h h' st k => by
    obtain ⟨g0, g1, g2, ⟨p, q, g3⟩, g4, g5⟩ := st
    have k1 : ∀ c o, c ∈ [z, TI, TO, j1, j2] → h.get? c = some o → h'.get? c = some o := fun c o hc => k c hc o
    exact ⟨g0, k1 _ _ (by simp) g1, k1 _ _ (by simp) g2, ⟨p, q, k1 _ _ (by simp) g3⟩, g4.at fun o y => k1 _ o (by simp) y, g5.at fun o y => k1 _ o (by simp) y⟩
  item := by
    intro X eP ew eK hc i pins s σ H E I fp st hg
    subst eP ew eK
    obtain ⟨_, g1, g2, g3, g4, g5⟩ := st
    obtain ⟨us, ws, p, q, s1, s2, at1, at2, hn⟩ := hg
    obtain ⟨its, r1, l1, _⟩ := I.list s1
    obtain ⟨jts, r2, l2, _⟩ := I.tuple s2
    have len1 := r1.length
    have len2 := r2.length
    have lt1 := (List.getElem?_eq_some_iff.mp at1).1
    have lt2 := (List.getElem?_eq_some_iff.mp at2).1
    have W := GoesN.zip2 (prog := X.prog) (w := X.w) (A := X.A) (elts := elts) (x1 := kk) (pos := tp) S (Draws.list (prog := X.prog) (w := X.w) (A := X.A.in1) (I.ok.hd hc) j1 a na its.toArray) (Draws.tuple (prog := X.prog) (w := X.w) (A := X.A.in1) (I.ok.hd hc) j2 b nb jts.toArray)
    refine W.goes i s _ _ (by simp; omega) ⟨g1, g2, g3, ⟨g4, l1.isList⟩, ⟨g5, l2⟩⟩ fun v h' tk y st' kk' _ => ?_
    obtain ⟨T, x1, x2, rfl, hT, y1, y2, hTup⟩ := y
    obtain ⟨v1, e1, rv1⟩ := r1.get at1
    obtain ⟨v2, e2, rv2⟩ := r2.get at2
    have q1 : x1 = v1 := Option.some.inj (y1.symm.trans (by simpa using e1))
    have q2 : x2 = v2 := Option.some.inj (y2.symm.trans (by simpa using e2))
    subst q1 q2
    have fresh : H T = none := I.hok.fresh hT
    have hold : ∀ c o, c ∉ [z, TI, TO, j1, j2] → s.heap.get? c = some o → h'.get? c = some o := fun c o hcm => kk' c o fun hm => hcm (by
      simp only [List.mem_cons, List.not_mem_nil, or_false] at hm ⊢
      rcases hm with e | e | e | e
      · exact .inl e
      · exact .inr (.inr (.inl e))
      · exact .inr (.inr (.inr (.inl e)))
      · exact .inr (.inr (.inr (.inr e))))
    have two : ObjOk X.prog X.w (upd H T (.tup [p, q])) h' T (.tup [p, q]) := ⟨(by decide : 2 ≤ sizeLine), [x1, x2], .cons rv1 (.cons rv2 .nil), hTup⟩
    have J := I.turnedNew (t' := tk) hold fp hT two
    obtain ⟨k1, k2, k3, ⟨k4, _⟩, ⟨k5, _⟩⟩ := st'
    refine ⟨.ref T, _, J, rfl, ⟨T, p, q, rfl, fresh, rfl, fun l hl => (I.list_inj hl s1) ▸ at1, fun l hl => (I.tuple_inj hl s2) ▸ at2⟩, ⟨by omega, k1, k2, k3, k4, k5⟩, fun c hcm => ?_⟩
    have ne : c ≠ T := fun e => by
      obtain ⟨o, ho⟩ : ∃ o, s.heap.get? c = some o := by
        simp only [List.mem_cons, List.not_mem_nil, or_false] at hcm
        obtain ⟨_, _, g3⟩ := g3
        obtain ⟨_, g4, _⟩ := g4
        obtain ⟨_, g5, _⟩ := g5
        rcases hcm with rfl | rfl | rfl | rfl | rfl
        · exact ⟨_, g1⟩
        · exact ⟨_, g2⟩
        · exact ⟨_, g3⟩
        · exact ⟨_, g4⟩
        · exact ⟨_, g5⟩
      have := Heap.lt_size ho
      rw [e] at this
      exact absurd hT (Nat.not_le_of_lt this)
    rw [upd_ne ne]
    exact (fp c hcm).1
  done := by
    intro X eP ew eK hc i pins s σ H E I fp st hg
    subst eP ew eK
    obtain ⟨hi, g1, g2, g3, g4, g5⟩ := st
    obtain ⟨hi2, us, ws, s1, s2, hn⟩ := hg
    obtain ⟨its, r1, l1, _⟩ := I.list s1
    obtain ⟨jts, r2, l2, _⟩ := I.tuple s2
    have len1 := r1.length
    have len2 := r2.length
    have hin : i = min its.toArray.size jts.toArray.size := by simp only [List.size_toArray]; omega
    have W := GoesN.zip2 (prog := X.prog) (w := X.w) (A := X.A) (elts := elts) (x1 := kk) (pos := tp) S (Draws.list (prog := X.prog) (w := X.w) (A := X.A.in1) (I.ok.hd hc) j1 a na its.toArray) (Draws.tuple (prog := X.prog) (w := X.w) (A := X.A.in1) (I.ok.hd hc) j2 b nb jts.toArray)
    rw [hin] at g4 g5
    refine W.stops s _ _ ⟨g1, g2, g3, ⟨g4, l1.isList⟩, ⟨g5, l2⟩⟩ fun h' tk kk' _ => ?_
    refine I.turnedL (t' := tk) (ch := [z, TI, TO, j1, j2]) (fun c o hcm => kk' c o fun hm => hcm (by
      simp only [List.mem_cons, List.not_mem_nil, or_false] at hm ⊢
      rcases hm with e | e | e | e
      · exact .inl e
      · exact .inr (.inr (.inl e))
      · exact .inr (.inr (.inr (.inl e)))
      · exact .inr (.inr (.inr (.inr e))))) fp
  self := fun A i s Q E st h => wpAny_pyIter_zip st.2.1 h
def tZipM (K : PySem.W.Frag) (ta : TA) : TI := fun σ H R => ta σ H fun vs H1 => ∃ a b us ws, vs = [.ref a, .ref b] ∧ SqL K H1 a us ∧ SqT K H1 b ws ∧ R (ItzM K a b (min us.length ws.length)) H1
section
variable {X : Cx} {e e2 : Expr} {p pos tp : Pos} {elts : List Expr} {kk : Nat}
theorem pi_zipM {ta : TA} (hg : Gl X "zip") (hm : X.mg "zip" = none) (ha : PA X [e, e2] ta) (hs : starEach [e, e2] X.env = (false, eval e X.env) :: starEach [e2] X.env := by rfl) (hpl : (backTo pos (starEach [e2] X.env)).any (·.1) = false := by rfl) :
    PI X (.Tuple elts kk tp) (.Call (.Name "zip" p) [e, e2] [] pos) (tZipM X.K ta) := by
  refine ⟨fun pins s σ H R I h => Call_ (ld_blt I hg hm PyProof.Rows.boot_zip (PyProof.Rows.callWith_type1 (thn (ha.run pos pins s σ H _ I h) fun us s1 ⟨vs, H1, I1, rv, q1⟩ => ?_) hs hpl))⟩
  obtain ⟨a, b, as, bs, rfl, s1', s2', q⟩ := q1
  obtain ⟨u1, u2, rfl, ru1, ru2⟩ : ∃ u1 u2, us = [u1, u2] ∧ RelV (.ref a) u1 ∧ RelV (.ref b) u2 := by
    cases rv with
    | cons r1 rr => cases rr with
      | cons r2 rr => cases rr; exact ⟨_, _, rfl, r1, r2⟩
  cases ru1
  cases ru2
  obtain ⟨its, r1, l1, _⟩ := I1.list s1'
  obtain ⟨jts, r2, l2, _⟩ := I1.tuple s2'
  have la : a < s1.heap.objs.size := l1.lt
  have lb : b < s1.heap.objs.size := by obtain ⟨o, ho, _⟩ := id l2; exact Heap.lt_size ho
  refine zip_begins2 (begins_list a its.toArray) (begins_tuple b jts.toArray) l1.isList l2 fun h' g1 g2 g3 g4 g5 hz hk => wpAny_pyIter_zip g1 ?_
  refine ⟨s1.heap.objs.size + 4, [s1.heap.objs.size + 4, s1.heap.objs.size + 2, s1.heap.objs.size + 3, s1.heap.objs.size, s1.heap.objs.size + 1], _, _, H1, rfl, I1.kept (t' := s1.toks) hk,
    turn_zipM (zip_sep2 (fun c hc => by rw [List.mem_singleton.mp hc]; exact la) (fun c hc => by rw [List.mem_singleton.mp hc]; exact lb)) (Nat.ne_of_lt la) (Nat.ne_of_lt (Nat.lt_succ_of_lt lb)),
    ⟨Nat.zero_le _, g1, g2, ⟨_, _, g3⟩, ⟨_, g4, rfl, rfl⟩, ⟨_, g5, rfl, rfl⟩⟩, fun c hcm => ?_, q⟩
  have hle : s1.heap.objs.size ≤ c := by
    simp only [List.mem_cons, List.not_mem_nil, or_false] at hcm
    rcases hcm with rfl | rfl | rfl | rfl | rfl <;> first | exact Nat.le_refl _ | exact Nat.le_add_right _ _
  exact I1.fpOk hle (I1.hok.fresh hle)
end
def iZipM (f g : EX) : IX := fun e S => (f e S).bind fun p => (g e p.2).bind fun q => match q.1 with
  | .tup ys => (listOf q.2 p.1).map fun xs => (zipD xs ys, gsOf p.1, q.2)
  | _ => none
theorem it_zipM {K : PySem.W.Frag} {m : M} {Z : List Addr} {a b : Addr} {xs ys : List D} {g1 : List Nat} {ws : List V} {n : Nat} (h1 : Stays K Z m a xs g1) (s : Sim ⟨K, Z⟩ m) (q2 : SqT K m.H b ws) (r2 : RepL ⟨K, Z⟩ m ys ws) (hn : min xs.length ys.length = n) : ItOk K Z m (zipD xs ys) g1 (ItzM K a b n) := ⟨fun Z' m' hz hw x si gd i => by
  obtain ⟨us, q1, r1⟩ := h1 Z' m' hz hw x si gd
  have q2 : SqT K m'.H b ws := x.sqT s.bok q2
  have r2 : RepL ⟨K, Z'⟩ m' ys ws := RepL.mono s.bok x ys ws (RepL.widen hw ys ws r2)
  have hn' : min us.length ws.length = n := by rw [r1.len, r2.len]; exact hn
  refine ⟨fun hi => ⟨?_, us, ws, q1, q2, hn'⟩, fun d hd => ?_⟩
  · unfold zipD at hi
    rw [List.length_zipWith, hn] at hi
    exact hi
  obtain ⟨x1, y1, hx, hy, rfl⟩ := zipD_get hd
  obtain ⟨v1, hv1, rv1⟩ := r1.get hx
  obtain ⟨v2, hv2, rv2⟩ := r2.get hy
  refine ⟨⟨us, ws, v1, v2, q1, q2, hv1, hv2, hn'⟩, fun v H3 ⟨T, u1, u2, eT, hT, eH, f1, f2⟩ => ?_⟩
  subst eT eH
  have e1 : v1 = u1 := Option.some.inj (hv1.symm.trans (f1 us q1))
  have e2 : v2 = u2 := Option.some.inj (hv2.symm.trans (f2 ws q2))
  subst e1 e2
  exact pair_new si hT rv1 rv2⟩
section
variable {X : Cx} {e e2 : Expr} {p pos tp : Pos} {elts : List Expr} {kk : Nat} {f g : EX}
theorem ij_zipM (hg : Gl X "zip") (hm : X.mg "zip" = none) (h : EJ X e f) (k : EJ X e2 g) (hs : starEach [e, e2] X.env = (false, eval e X.env) :: starEach [e2] X.env := by rfl) (hpl : (backTo pos (starEach [e2] X.env)).any (·.1) = false := by rfl)
    (hs'' : starEach [e2] X.env = (false, eval e2 X.env) :: starEach [] X.env := by rfl) : IJ X (.Tuple elts kk tp) (.Call (.Name "zip" p) [e, e2] [] pos) (iZipM f g) :=
  pi_wk (pi_zipM hg hm (aj_cons h (aj_cons k aj_nil hs'') hs) hs hpl) fun σ H R ⟨Z, m, env, ds, gs, S', eH, s, er, hf, q⟩ => by
    unfold iZipM at hf
    obtain ⟨⟨a, S1⟩, h1, hf⟩ := Option.bind_eq_some_iff.mp hf
    obtain ⟨⟨b, S2⟩, h2, hf⟩ := Option.bind_eq_some_iff.mp hf
    refine ⟨Z, m, env, [a, b], S2, eH, s, er, by simp [aCons, h1, h2, aNil], fun m1 vx e1 t1 rx0 => ?_⟩
    obtain ⟨x, y, rfl, rx, ry⟩ := rx0.two_inv
    cases b <;> first | exact no2 hf | skip
    rename_i ys
    obtain ⟨xs, l1, hf⟩ := Option.map_eq_some_iff.mp (show (listOf S2 a).map _ = _ from hf)
    simp only [Prod.mk.injEq] at hf
    obtain ⟨rfl, rfl, rfl⟩ := hf
    obtain ⟨pb, ws, rfl, q2, r2⟩ := ry
    obtain ⟨pa, us, rfl, q1, r1⟩ := t1.si.list rx (by rw [e1]; exact l1)
    obtain ⟨_, ea, sa⟩ := t1.si.stays rx (by rw [e1]; exact l1)
    cases ea
    exact ⟨pa, pb, us, ws, rfl, q1, q2, q m1 _ e1 t1 (it_zipM sa t1.si q2 r2 (by rw [r1.len, r2.len]))⟩
end
theorem IV_zipM {e : En} {S : Sto} {QI : List D → List Nat → Sto → Prop} {f g : EX} : IV (iZipM f g) e S QI ↔ EV f e S fun d S1 => EV g e S1 fun d2 S2 => ∃ xs ys, d2 = .tup ys ∧ listOf S2 d = some xs ∧ QI (zipD xs ys) (gsOf d) S2 := by
  unfold IV EV iZipM
  constructor
  · rintro ⟨ds, gs, S', hh, q⟩
    obtain ⟨⟨d, S1⟩, h1, hh⟩ := Option.bind_eq_some_iff.mp hh
    obtain ⟨⟨d2, S2⟩, h2, hh⟩ := Option.bind_eq_some_iff.mp hh
    cases d2 <;> first | exact no2 hh | skip
    rename_i ys
    obtain ⟨xs, l1, hh⟩ := Option.map_eq_some_iff.mp (show (listOf S2 d).map _ = _ from hh)
    cases hh
    exact ⟨d, S1, h1, _, _, h2, xs, ys, rfl, l1, q⟩
  · rintro ⟨d, S1, h1, d2, S2, h2, xs, ys, rfl, l1, q⟩
    exact ⟨_, _, _, by rw [h1]; show (g e S1).bind _ = _; rw [h2]; show (listOf S2 d).map _ = _; rw [l1]; rfl, q⟩
end Pv
set_option Elab.async false
set_option linter.all false
set_option maxRecDepth 100000
namespace Pv
open PySem PySem.Spec PyProof.Rows L2
/-! i >> j -/
def fShr : F2 := fun _ a b => match a, b with
  | .int i, .int j => if 0 ≤ j then some (.int (i / 2 ^ j.toNat)) else none
  | _, _ => none
theorem o_shr {X : Cx} : OpR X (binaryOp .RShift) (r2 X.K fShr) := by
  rintro pins s σ H x y v u Q I rx ry ⟨Z, m, a, b, d, rfl, si, ra, rb, hf, q⟩
  cases a <;> first | exact no2 hf | skip
  cases b <;> first | exact no2 hf | skip
  obtain ⟨hz, rfl⟩ := ite_some hf
  exact op_shr pins s σ m.H x y v u Q I rx ry ⟨_, _, ra, rb, hz, q m _ rfl (.refl si) rfl⟩
theorem r_shr {S : Sto} {a b : Int} : fShr S (.int a) (.int b) = if 0 ≤ b then some (.int (a / 2 ^ b.toNat)) else none := rfl
/-! a def that changes two boxes: the hand h and the box p -/
structure Up2 (h p : Nat) (S S2 : Sto) : Prop where
  len : S.length ≤ S2.length
  at_ : ∀ i, i < S.length → i ≠ h → i ≠ p → S2[i]? = S[i]?
theorem Up2.refl {h p : Nat} {S : Sto} : Up2 h p S S := ⟨Nat.le_refl _, fun _ _ _ _ => rfl⟩
theorem Up2.trans {h p : Nat} {S S2 S3 : Sto} (a : Up2 h p S S2) (b : Up2 h p S2 S3) : Up2 h p S S3 := ⟨Nat.le_trans a.len b.len, fun i hi hn hm => (b.at_ i (Nat.lt_of_lt_of_le hi a.len) hn hm).trans (a.at_ i hi hn hm)⟩
theorem Up.two {h p : Nat} {S S2 : Sto} (a : Up h S S2) : Up2 h p S S2 := ⟨a.len, fun i hi hn _ => a.at_ i hi hn⟩
theorem Up2.setP {h p : Nat} {S S2 : Sto} {o : Ob} (a : Up2 h p S S2) : Up2 h p S (S2.set p o) := ⟨by rw [List.length_set]; exact a.len, fun i hi hn hm => (List.getElem?_set_ne (Ne.symm hm)).trans (a.at_ i hi hn hm)⟩
/-- the store behind such a call; the box p holds ds -/
structure St2 (h p n : Nat) (ds : List D) (S S2 : Sto) : Prop where
  up : Up2 h p S S2
  eq : S2.length = S.length
  hd : HD n S2 h
  bx : S2[p]? = some (.lst ds)
theorem St2.mono {h p n k : Nat} {ds : List D} {S S2 : Sto} (a : St2 h p n ds S S2) (hk : n ≤ k) : St2 h p k ds S S2 := ⟨a.up, a.eq, a.hd.mono hk, a.bx⟩
theorem St2.trans {h p n k : Nat} {ds es : List D} {S S2 S3 : Sto} (a : St2 h p n ds S S2) (b : St2 h p k es S2 S3) : St2 h p k es S S3 := ⟨a.up.trans b.up, b.eq.trans a.eq, b.hd, b.bx⟩
theorem St.two {h p n : Nat} {ds : List D} {S S2 : Sto} (a : St h n S S2) (hp : p ≠ h) (b : S[p]? = some (.lst ds)) : St2 h p n ds S S2 := ⟨a.up.two, a.eq, a.hd, a.box hp b⟩
/-- what such a def gives back is bare, and so is what it leaves in the box -/
def RtH2 (h p n : Nat) (S : Sto) (Q : D → Sto → Prop) : Out → Prop
  | .rt d S2 => HD n S2 h ∧ Up2 h p S S2 ∧ ∃ ds, S2[p]? = some (.lst ds) ∧ bareL ds = true ∧ bare d = true ∧ ∀ S', St2 h p n ds S S' → Q d S'
  | _ => False
theorem CV_hand2 {k N h p n : Nat} {b : SX} {ds : List D} {S : Sto} {Q : D → Sto → Prop} (hs : h < S.length) (hp : p < S.length) (hn : ds.length = k) (H : SV b (sE N ds) S (RtH2 h p n S Q)) : CV (den k N 0 b) ds S Q := by
  refine CV_den hn (H.imp fun o q => ?_)
  cases o with
  | rt d S2 =>
    obtain ⟨q1, q2, es, q3, q4, q5, q6⟩ := q
    have hl : (S2.take (S.length + 0)).length = S.length := by rw [List.length_take]; have := q2.len; omega
    refine ⟨q2.len, fun i fs hi e => ?_, d, handed_bare q5, q6 _ ⟨⟨by omega, fun i hi hn hm => ?_⟩, hl, ?_, ?_⟩⟩
    · by_cases h1 : i = h
      · subst h1
        obtain ⟨o, g1, x, y, z, g2, _⟩ := q1
        rw [g1, g2] at e
        cases e
        exact .inr rfl
      · by_cases h2 : i = p
        · subst h2
          rw [q3] at e
          cases e
          exact .inr (bareL_below _ q4)
        · exact .inl ((q2.at_ i hi h1 h2).symm.trans e)
    · rw [List.getElem?_take_of_lt (by omega)]; exact q2.at_ i hi hn hm
    · obtain ⟨o, g1, g2⟩ := q1
      exact ⟨o, by rw [List.getElem?_take_of_lt (by omega)]; exact g1, g2⟩
    · rw [List.getElem?_take_of_lt (by omega)]; exact q3
  | nx e S2 => exact q.elim
  | bk e S2 => exact q.elim
  | ct e S2 => exact q.elim
end Pv
set_option Elab.async false
set_option linter.all false
set_option maxRecDepth 100000
namespace Pv
open PySem PySem.Spec PyProof.Rows L2
/-! len(set(xs)) of ints -/
def fm (ns : List Int) : List Int := firstMet (fun i => ns.getD i 0) ns.length
theorem fm_step (val : Nat → Int) : ∀ i, (firstMet val i).Nodup ∧ ∀ x, x ∈ firstMet val i → ∃ j, j < i ∧ val j = x
  | 0 => ⟨List.nodup_nil, fun x h => nomatch h⟩
  | i + 1 => by
    obtain ⟨h1, h2⟩ := fm_step val i
    rw [firstMet_succ]
    unfold step_dedup
    split
    · exact ⟨h1, fun x hx => let ⟨j, hj, e⟩ := h2 x hx; ⟨j, by omega, e⟩⟩
    · rename_i hn
      have no : val i ∉ firstMet val i := fun hm => hn (List.any_eq_true.mpr ⟨_, hm, by simp⟩)
      refine ⟨List.nodup_append.mpr ⟨h1, by simp, fun a ha b hb e => ?_⟩, fun x hx => ?_⟩
      · rw [List.mem_singleton.mp hb] at e
        exact no (e ▸ ha)
      · rcases List.mem_append.mp hx with hx | hx
        · obtain ⟨j, hj, e⟩ := h2 x hx
          exact ⟨j, by omega, e⟩
        · exact ⟨i, by omega, (List.mem_singleton.mp hx).symm⟩
theorem fm_facts (ns : List Int) : (fm ns).Nodup ∧ ∀ x, x ∈ fm ns → ∃ j, j < ns.length ∧ ns.getD j 0 = x := fm_step _ _
theorem nodup_le {l m : List Int} (h : l.Nodup) (hs : ∀ x, x ∈ l → x ∈ m) : l.length ≤ m.length := by
  induction l generalizing m with
  | nil => exact Nat.zero_le _
  | cons x l ih =>
    obtain ⟨h1, h2⟩ := List.nodup_cons.mp h
    have hx : x ∈ m := hs x (List.mem_cons_self ..)
    have := ih (m := m.erase x) h2 fun y hy => (List.mem_erase_of_ne fun (e : y = x) => h1 (e ▸ hy)).mpr (hs y (List.mem_cons_of_mem _ hy))
    rw [List.length_erase_of_mem hx] at this
    have := List.length_pos_of_mem hx
    rw [List.length_cons]
    omega
def tLenSet (K : PySem.W.Frag) (ta : TE) : TE := fun σ H Q => ta σ H fun x H1 => ∃ (l : Addr) (ns : List Int), x = .ref l ∧ SqL K H1 l (ns.map V.int) ∧ ns.length ≤ 4000 ∧ Q (.int ((fm ns).length : Nat)) H1
section
variable {X : Cx} {a : Expr} {ta : TE} {p p2 q pos : Pos} {f : EX}
theorem pe_lenSet (hg : Gl X "len") (hm : X.mg "len" = none) (hg2 : Gl X "set") (hm2 : X.mg "set" = none) (ha : PE X a ta) (hc : X.calm = true := by rfl)
    (na : starEach [a] X.env = (false, eval a X.env) :: starEach [] X.env := by rfl) : PE X (.Call (.Name "len" p) [.Call (.Name "set" p2) [a] [] q] [] pos) (tLenSet X.K ta) := by
  refine ⟨fun pins s σ H Q I h => Call_ (ld_blt I hg hm boot_len (callWith_builtin1 (args_cons (Call_ (ld_blt I hg2 hm2 boot_set (callWith_type1 (args_cons (thn (ha.run pins s σ H _ I h) fun v s1 w => args_nil ?_) na) na rfl))) rfl) rfl rfl))⟩
  obtain ⟨x, H1, I1, r1, l, ns, rfl, hs, hn, q1⟩ := w
  obtain rfl : v = Value.ref l := r1
  obtain ⟨its, rv, pl, hz⟩ := I1.list hs
  have sz : its.toArray.size = ns.length := by rw [List.size_toArray, ← rv.length, List.length_map]
  refine call_set_list (I1.ok.hd hc) pl.isList (by simpa using RZ.intsAre_vals rv) (by rw [sz]; unfold scanBound; omega) fun h' tk st hk => args_nil ?_
  rw [sz] at st
  have st : h'.SetOf _ _ _ (fm ns).length := st
  have hle : (fm ns).length ≤ ns.length := firstMet_length_le _ _
  obtain ⟨o, es, ep, t, g1, g2, g3, _, _, _, g4, g5⟩ := st
  have I2 : Inv X pins σ H1 { s1 with heap := h', toks := tk } := I1.kept fun b o e => hk b o (Heap.lt_size e) e
  exact call_len_set g1 g2 g3 g4 (by rw [g5] <;> omega) ⟨.int (fm ns).length, H1, I2.tok _, ⟨_, by rw [g5]⟩, q1⟩
end
def eLenSet (f : EX) : EX := fun e S => (f e S).bind fun p => (listOf p.2 p.1).bind fun ds => (intsOf ds).bind fun ns => if ns.length ≤ 4000 then some (.int ((fm ns).length : Nat), p.2) else none
theorem ej_lenSet {X : Cx} {a : Expr} {p p2 q pos : Pos} {f : EX} (hg : Gl X "len") (hm : X.mg "len" = none) (hg2 : Gl X "set") (hm2 : X.mg "set" = none) (ha : EJ X a f) (hc : X.calm = true := by rfl)
    (na : starEach [a] X.env = (false, eval a X.env) :: starEach [] X.env := by rfl) : EJ X (.Call (.Name "len" p) [.Call (.Name "set" p2) [a] [] q] [] pos) (eLenSet f) :=
  pe_wk (pe_lenSet hg hm hg2 hm2 ha hc na) fun σ H Q ⟨Z, m, env, v, S', e, s, er, hf, q⟩ => by
    unfold eLenSet at hf
    obtain ⟨⟨x, S1⟩, h1, hf⟩ := Option.bind_eq_some_iff.mp hf
    obtain ⟨ds, h2, hf⟩ := Option.bind_eq_some_iff.mp hf
    obtain ⟨ns, h3, hf⟩ := Option.bind_eq_some_iff.mp hf
    obtain ⟨hz, hf⟩ := ite_some hf
    cases hf
    refine ⟨Z, m, env, x, _, e, s, er, h1, fun m1 vx e1 t1 rx => ?_⟩
    obtain ⟨l, xs, rfl, hs, rl⟩ := t1.si.list rx (by rw [e1]; exact h2)
    rw [intsOf_inv h3] at rl
    exact ⟨l, ns, rfl, by rw [← rl.ints]; exact hs, hz, q m1 _ e1 t1 rfl⟩
theorem EV_lenSet {e : En} {S : Sto} {Q : D → Sto → Prop} {f : EX} : EV (eLenSet f) e S Q ↔ EV f e S fun d S1 => ∃ ns : List Int, listOf S1 d = some (ns.map D.int) ∧ ns.length ≤ 4000 ∧ Q (.int ((fm ns).length : Nat)) S1 := by
  unfold EV eLenSet
  constructor
  · rintro ⟨v, S', hf, q⟩
    obtain ⟨⟨x, S1⟩, h1, hf⟩ := Option.bind_eq_some_iff.mp hf
    obtain ⟨ds, h2, hf⟩ := Option.bind_eq_some_iff.mp hf
    obtain ⟨ns, h3, hf⟩ := Option.bind_eq_some_iff.mp hf
    obtain ⟨hz, hf⟩ := ite_some hf
    cases hf
    exact ⟨x, _, h1, ns, by rw [h2, intsOf_inv h3], hz, q⟩
  · rintro ⟨x, S1, h1, ns, h2, hz, q⟩
    exact ⟨_, _, by rw [h1]; show (listOf S1 x).bind _ = _; rw [h2]; show (intsOf (ns.map D.int)).bind _ = _; rw [intsOf_map]; show (if _ then _ else _) = _; rw [if_pos hz], q⟩
/-! zip -/
def zipV (S : Sto) (d d2 : D) : Option (List D × List Nat) := match d, d2 with
  | .tup xs, .tup ys => some (zipD xs ys, [])
  | a, b => (listOf S a).bind fun xs => (listOf S b).map fun ys => (zipD xs ys, gsOf a ++ gsOf b)
theorem zv_T {S : Sto} {xs ys : List D} : zipV S (.tup xs) (.tup ys) = some (zipD xs ys, []) := rfl
theorem zv_L {S : Sto} {xs ys : List D} : zipV S (.lst xs) (.lst ys) = some (zipD xs ys, []) := rfl
theorem zip_eq {f g : EX} {e : En} {S S1 S2 : Sto} {d d2 : D} (h1 : f e S = some (d, S1)) (h2 : g e S1 = some (d2, S2)) : iZip' f g e S = (zipV S2 d d2).map fun r => (r.1, r.2, S2) := by
  have gen : ∀ a b : D, ((listOf S2 a).bind fun xs => (listOf S2 b).map fun ys => (zipD xs ys, gsOf a ++ gsOf b, S2)) = ((listOf S2 a).bind fun xs => (listOf S2 b).map fun ys => (zipD xs ys, gsOf a ++ gsOf b)).map fun r => (r.1, r.2, S2) := fun a b => by
    cases listOf S2 a with
    | none => rfl
    | some xs => cases listOf S2 b <;> rfl
  by_cases ht : ∃ xs ys, d = .tup xs ∧ d2 = .tup ys
  · obtain ⟨xs, ys, rfl, rfl⟩ := ht
    unfold iZip'
    rw [h1]
    show (g e S1).bind _ = _
    rw [h2]
    rfl
  · have k1 : zipV S2 d d2 = ((listOf S2 d).bind fun xs => (listOf S2 d2).map fun ys => (zipD xs ys, gsOf d ++ gsOf d2)) := by
      unfold zipV
      split
      · exact absurd ⟨_, _, rfl, rfl⟩ ht
      · rfl
    have k2 : iZip' f g e S = ((listOf S2 d).bind fun xs => (listOf S2 d2).map fun ys => (zipD xs ys, gsOf d ++ gsOf d2, S2)) := by
      unfold iZip'
      rw [h1]
      show (g e S1).bind _ = _
      rw [h2, Option.bind_some]
      split
      · rename_i a b
        exact absurd ⟨_, _, by assumption, by assumption⟩ ht
      · rfl
    rw [k1, k2]
    exact gen _ _
theorem IV_zip {e : En} {S : Sto} {QI : List D → List Nat → Sto → Prop} {f g : EX} : IV (iZip' f g) e S QI ↔ EV f e S fun d S1 => EV g e S1 fun d2 S2 => ∃ r, zipV S2 d d2 = some r ∧ QI r.1 r.2 S2 := by
  constructor
  · rintro ⟨ds, gs, S', h, q⟩
    obtain ⟨a, b, S1, h1, h2, _⟩ := iZip_inv h
    rw [zip_eq h1 h2] at h
    obtain ⟨r, h3, h⟩ := Option.map_eq_some_iff.mp h
    cases h
    exact ⟨a, S1, h1, b, S', h2, r, h3, q⟩
  · rintro ⟨a, S1, h1, b, S2, h2, r, h3, q⟩
    exact ⟨r.1, r.2, S2, by rw [zip_eq h1 h2, h3]; rfl, q⟩
end Pv
set_option Elab.async false
set_option linter.all false
set_option maxRecDepth 100000
set_option maxHeartbeats 0
namespace Pv
open PySem PySem.Spec PyProof.Rows L2
/-! stakes, deeds, doubters, ones: drawn as most laws draw them -/
noncomputable def b_stake (k__law_of k__law_take k__law_expression : Con) : SX := sSeq (sAsg (eCall k__law_of (aCons (eVar 0) (aCons (eFz (lDisp (aCons (eC (.int 500)) (aCons (eC (.int 125)) (aCons (eC (.int 50)) (aCons (eC (.int 1)) (aCons (e2 fAdd (eC (.int 1)) (eCall k__law_take (aCons (eVar 0) (aCons (eC (.int 500)) (aNil))))) (aNil)))))))) (aNil)))) (gN 4)) (sSeq (sIf (tOf (e2 fEq (eCall k__law_take (aCons (eVar 0) (aCons (eC (.int 4)) (aNil)))) (eC (.int 0)))) (sRet (eTup (aCons (eC (.str "fig")) (aCons (eCall k__law_of (aCons (eVar 0) (aCons (eFz (lDisp (aCons (eC (.int 0)) (aCons (eC (.int 0)) (aCons (eVar 4) (aCons (e1 fNeg (eVar 4)) (aNil))))))) (aNil)))) (aNil))))) (sNil)) (sSeq (sAsg (eTup (aCons (eC (.str "most")) (aCons (eTup (aCons (eC (.str "fig")) (aCons (e1 fNeg (eVar 4)) (aNil)))) (aCons (eCall k__law_expression (aCons (eVar 0) (aCons (eVar 1) (aCons (eVar 2) (aCons (eVar 3) (aNil)))))) (aNil))))) (gN 5)) (sRet (eTup (aCons (eC (.str "least")) (aCons (eTup (aCons (eC (.str "fig")) (aCons (eVar 4) (aNil)))) (aCons (eVar 5) (aNil))))))))
noncomputable def b_deeds (k__law_take k__law_of k__law_figure k__law_deeds : Con) : SX := sSeq (sAsg (eBx (lDisp (aNil))) (gN 3)) (sSeq (sFor (iRg1 (eCall k__law_take (aCons (eVar 0) (aCons (eC (.int 4)) (aNil))))) (gN 4) (sSeq (sPar 6 7 (aCons (eCall k__law_take (aCons (eVar 0) (aCons (eC (.int 4)) (aNil)))) (aCons (eCall k__law_of (aCons (eVar 0) (aCons (eFz (lDisp (aCons (eC (.str "put")) (aCons (eC (.str "add")) (aCons (eC (.str "copy")) (aCons (eC (.str "plus")) (aCons (eC (.str "told")) (aCons (eC (.str "add")) (aNil))))))))) (aNil)))) (aNil)))) (sIf (tOf (e2 fIn (eVar 7) (eTup (aCons (eC (.str "put")) (aCons (eC (.str "add")) (aNil)))))) (sExpr (eMt hAppend (eVar 3) (aCons (eTup (aCons (eVar 7) (aCons (eVar 6) (aCons (eCall k__law_figure (aCons (eVar 0) (aNil))) (aNil))))) (aNil)))) (sIf (tOf (e2 fIn (eVar 7) (eTup (aCons (eC (.str "copy")) (aCons (eC (.str "plus")) (aNil)))))) (sExpr (eMt hAppend (eVar 3) (aCons (eTup (aCons (eVar 7) (aCons (eVar 6) (aCons (eCall k__law_take (aCons (eVar 0) (aCons (eC (.int 4)) (aNil)))) (aNil))))) (aNil)))) (sExpr (eMt hAppend (eVar 3) (aCons (eTup (aCons (eVar 7) (aCons (eVar 6) (aCons (eCall k__law_take (aCons (eVar 0) (aCons (eVar 1) (aNil)))) (aNil))))) (aNil)))))))) (sSeq (sIf (tAnd' (tOf (e2 fGt (eVar 2) (eC (.int 0)))) (tOf (e2 fEq (eCall k__law_take (aCons (eVar 0) (aCons (eC (.int 3)) (aNil)))) (eC (.int 0))))) (sSeq (sAsgL false (lLc (iRg1 (eC (.int 2))) (gN 4) (tYes') (eCall k__law_deeds (aCons (eVar 0) (aCons (eVar 1) (aCons (e2 fSub (eVar 2) (eC (.int 1))) (aNil))))) [4]) 5) (sExpr (eMt hAppend (eVar 3) (aCons (eTup (aCons (eC (.str "when")) (aCons (eCall k__law_take (aCons (eVar 0) (aCons (eC (.int 4)) (aNil)))) (aCons (eCall k__law_figure (aCons (eVar 0) (aNil))) (aCons (e2 fIx (eVar 5) (eC (.int 0))) (aCons (e2 fIx (eVar 5) (eC (.int 1))) (aNil))))))) (aNil))))) (sNil)) (sRet (eCB (fn1 gTuple) (aCons (eVar 3) (aNil))))))
noncomputable def b_doubter (k__law_take k__law_of k__law_stake k__law_deeds k__law_registers : Con) : SX := sSeq (sPar 6 7 (aCons (eCall k__law_of (aCons (eVar 0) (aCons (eFz (lDisp (aCons (eC (.str "a")) (aCons (eC (.str "doubter")) (aCons (eC (.str "sceptics")) (aCons (eC (.str "zz")) (aNil))))))) (aNil)))) (aCons (eCall k__law_take (aCons (eVar 0) (aCons (eC (.int 5)) (aNil)))) (aNil)))) (sSeq (sAsg (eCB (fn1 gTuple) (aCons (eFz (lLc (iRg1 (eVar 1)) (gN 8) (tYes') (eCall k__law_stake (aCons (eVar 0) (aCons (eVar 1) (aCons (eVar 2) (aCons (eVar 3) (aNil)))))) [8])) (aNil))) (gN 4)) (sSeq (sAsg (eCB (fn1 gTuple) (aCons (eFz (lLc (iRg1 (eVar 1)) (gN 8) (tYes') (eCall k__law_deeds (aCons (eVar 0) (aCons (eVar 1) (aCons (eC (.int 1)) (aNil))))) [8])) (aNil))) (gN 5)) (sRet (eTup (aCons (eVar 6) (aCons (eVar 7) (aCons (eCall k__law_registers (aCons (eVar 0) (aNil))) (aCons (eVar 4) (aCons (eVar 5) (aNil))))))))))
noncomputable def b_one (k__law_of k__law_take k__law_registers : Con) : SX := sSeq (sAsg (eCall k__law_of (aCons (eVar 0) (aCons (eFz (lDisp (aCons (eC (.int 1)) (aCons (eC (.int 2)) (aCons (eC (.int 10)) (aCons (eC (.int 1000)) (aCons (e2 fPow (eC (.int 10)) (eC (.int 12))) (aCons (e2 fAdd (eC (.int 1)) (eCall k__law_take (aCons (eVar 0) (aCons (e2 fPow (eC (.int 10)) (eC (.int 6))) (aNil))))) (aNil))))))))) (aNil)))) (gN 2)) (sSeq (sAsg (eCall k__law_of (aCons (eVar 0) (aCons (eFz (lDisp (aCons (eVar 2) (aCons (eC (.int 0)) (aCons (eC (.int 1)) (aCons (eC (.int 7)) (aCons (e2 fMul (eC (.int 3)) (eVar 2)) (aCons (eCall k__law_take (aCons (eVar 0) (aCons (e2 fPow (eC (.int 10)) (eC (.int 12))) (aNil)))) (aNil))))))))) (aNil)))) (gN 3)) (sSeq (sPar 5 6 (aCons (eCall k__law_of (aCons (eVar 0) (aCons (eFz (lDisp (aCons (eC (.int 0)) (aCons (eC (.int 1)) (aCons (eCall k__law_take (aCons (eVar 0) (aCons (eC (.int 99)) (aNil)))) (aNil)))))) (aNil)))) (aCons (eCall k__law_take (aCons (eVar 0) (aCons (eC (.int 40)) (aNil)))) (aNil)))) (sSeq (sAsg (eCall k__law_of (aCons (eVar 0) (aCons (eFz (lDisp (aCons (eC (.int 0)) (aCons (e1 fNeg (eC (.int 1))) (aCons (e2 fPow (eC (.int 10)) (eC (.int 9))) (aCons (e2 fSub (eCall k__law_take (aCons (eVar 0) (aCons (e2 fPow (eC (.int 10)) (eC (.int 10))) (aNil)))) (e2 fMul (eC (.int 5)) (e2 fPow (eC (.int 10)) (eC (.int 9))))) (aNil))))))) (aNil)))) (gN 4)) (sRet (eTup (aCons (eC (.str "one")) (aCons (eVar 1) (aCons (eCall k__law_registers (aCons (eVar 0) (aNil))) (aCons (eVar 2) (aCons (eVar 3) (aCons (eVar 5) (aCons (eVar 6) (aCons (eVar 4) (aNil))))))))))))))
noncomputable def c_stake : Con := den 4 6 0 (b_stake c_of c_take (cc_expr 5))
noncomputable def cc_deeds : Nat → Con
  | 0 => fun _ _ => none
  | n + 1 => den 3 8 0 (b_deeds c_take c_of c_figure (cc_deeds n))
noncomputable def c_doubter (n : Nat) : Con := den 4 9 0 (b_doubter c_take c_of c_stake (cc_deeds n) c_registers)
noncomputable def c_one : Con := den 2 7 0 (b_one c_of c_take c_registers)
theorem CV_stake {S : Sto} {h n many l : Nat} {Q : D → Sto → Prop} (hm : 0 < many) (hm2 : many < 1000) (hl : l < 5) (H : HD n S h) (hn : n + 5 + Be l ≤ 1000000)
    (q : ∀ (e : Xp) S', exOk many e → lev e ≤ l + 2 → -500 ≤ (sp e).1 → (sp e).2 ≤ 500 → St h (n + 5 + Be l) S S' → Q (exD e) S') : CV c_stake [.ref h, .int many, .int l, .int 1] S Q := by
  have hlt := H.lt
  refine CV_hand (h := h) (n := n + 5 + Be l) hlt rfl ?_
  unfold b_stake
  (simp_arith! [])
  refine CV_take H (by omega) (by decide) (by decide) fun r S1 r0 r1 t1 => ?_
  (simp_arith! [])
  refine CV_of t1.hd (by omega) (.inr (.inl rfl)) (by simp) (by simp) ?_ fun d S2 hd t2 => ?_
  · intro d hd
    simp only [List.mem_cons, List.not_mem_nil, or_false] at hd
    rcases hd with rfl | rfl | rfl | rfl | rfl <;> rfl
  obtain ⟨f, rfl, f0, f1⟩ : ∃ f : Int, d = .int f ∧ 1 ≤ f ∧ f ≤ 500 := by
    simp only [List.mem_cons, List.not_mem_nil, or_false] at hd
    rcases hd with rfl | rfl | rfl | rfl | rfl <;> exact ⟨_, rfl, by omega, by omega⟩
  (simp_arith! [])
  refine CV_take t2.hd (by omega) (by decide) (by decide) fun a S3 a0 a1 t3 => ?_
  have t13 := t1.trans (t2.trans t3)
  (simp_arith! [])
  split
  · refine CV_of t3.hd (by omega) (.inr (.inl rfl)) (by simp) (by simp) ?_ fun d S4 hd t4 => ?_
    · intro d hd
      simp only [List.mem_cons, List.not_mem_nil, or_false] at hd
      rcases hd with rfl | rfl | rfl | rfl <;> rfl
    obtain ⟨g, rfl, g0, g1⟩ : ∃ g : Int, d = .int g ∧ -500 ≤ g ∧ g ≤ 500 := by
      simp only [List.mem_cons, List.not_mem_nil, or_false] at hd
      rcases hd with rfl | rfl | rfl | rfl <;> exact ⟨_, rfl, by omega, by omega⟩
    have t := t13.trans t4
    exact ⟨t.hd.mono (by omega), t.up, .inl ⟨rfl, fun S' hS => q (.fig g) S' ⟨by omega, by omega⟩ (Nat.zero_le _) g0 g1 hS⟩⟩
  · refine CV_expr hm hm2 l (by omega) t3.hd (by omega) fun e S4 he le t4 => ?_
    (simp_arith! [])
    have t := t13.trans t4
    have okx : exOk many (.lst (.fig f) (.mst (.fig (-f)) e)) := ⟨⟨by omega, by omega⟩, ⟨by omega, by omega⟩, he⟩
    have b1 : -500 ≤ (sp (.lst (.fig f) (.mst (.fig (-f)) e))).1 := by
      show -500 ≤ (if (if (sp e).1 > -f then (sp e).1 else -f) < f then (if (sp e).1 > -f then (sp e).1 else -f) else f)
      have := (mx_ge (a := -f) (b := (sp e).1)).1
      split <;> omega
    have b2 : (sp (.lst (.fig f) (.mst (.fig (-f)) e))).2 ≤ 500 := Int.le_trans (mn_le (a := f) (b := (sp (.mst (.fig (-f)) e)).2)).1 f1
    exact ⟨t.hd.mono (by omega), t.up, .inl ⟨exD_bare (.lst (.fig f) (.mst (.fig (-f)) e)), fun S' hS => q (.lst (.fig f) (.mst (.fig (-f)) e)) S' okx (by simp only [lev]; omega) b1 b2 hS⟩⟩
/-! deeds -/
inductive De where
  | put (i : Nat) (f : Int)
  | add (i : Nat) (f : Int)
  | cpy (i j : Nat)
  | pls (i j : Nat)
  | tld (i s : Nat)
  | whn (i : Nat) (f : Int) (a b : List De)
mutual
def deD : De → D
  | .put i f => .tup [.str "put", .int i, .int f]
  | .add i f => .tup [.str "add", .int i, .int f]
  | .cpy i j => .tup [.str "copy", .int i, .int j]
  | .pls i j => .tup [.str "plus", .int i, .int j]
  | .tld i s => .tup [.str "told", .int i, .int s]
  | .whn i f a b => .tup [.str "when", .int i, .int f, .tup (deL a), .tup (deL b)]
def deL : List De → List D
  | [] => []
  | d :: ds => deD d :: deL ds
end
mutual
def deOk (many : Nat) : De → Prop
  | .put i f => i < 4 ∧ -1000 ≤ f ∧ f ≤ 1000
  | .add i f => i < 4 ∧ -1000 ≤ f ∧ f ≤ 1000
  | .cpy i j => i < 4 ∧ j < 4
  | .pls i j => i < 4 ∧ j < 4
  | .tld i s => i < 4 ∧ s < many
  | .whn i f a b => i < 4 ∧ -1000 ≤ f ∧ f ≤ 1000 ∧ deOkL many a ∧ deOkL many b
def deOkL (many : Nat) : List De → Prop
  | [] => True
  | d :: ds => deOk many d ∧ deOkL many ds
end
theorem deL_app : ∀ ds es : List De, deL (ds ++ es) = deL ds ++ deL es
  | [], _ => rfl
  | d :: ds, es => by
    show deD d :: deL (ds ++ es) = deD d :: (deL ds ++ deL es)
    rw [deL_app ds es]
theorem deL_len : ∀ ds : List De, (deL ds).length = ds.length
  | [] => rfl
  | d :: ds => by show (deL ds).length + 1 = ds.length + 1; rw [deL_len ds]
theorem deOkL_app {many : Nat} : ∀ {ds es : List De}, deOkL many ds → deOkL many es → deOkL many (ds ++ es)
  | [], _, _, h => h
  | d :: ds, es, h, k => ⟨h.1, deOkL_app h.2 k⟩
/-- data of a size -/
structure Dat (dp c : Nat) (d : D) : Prop where
  br : bare d = true
  sh : shortB 13 d = true
  dp : dep d ≤ dp
  ct : cnt d ≤ c
  ok : okD d = true
structure DatL (dp c : Nat) (ds : List D) : Prop where
  br : bareL ds = true
  sh : shortL 13 ds = true
  dp : depL ds ≤ dp
  ct : cntL ds ≤ c
  ok : okL ds = true
theorem DatL.tup {dp c : Nat} {ds : List D} (h : DatL dp c ds) : Dat (dp + 1) c (.tup ds) := ⟨h.br, h.sh, by show depL ds + 1 ≤ dp + 1; have := h.dp; omega, h.ct, h.ok⟩
theorem DatL.nil {dp : Nat} : DatL dp 0 [] := ⟨rfl, rfl, Nat.zero_le _, Nat.le_refl _, rfl⟩
theorem DatL.cons {dp c k : Nat} {d : D} {ds : List D} (h : Dat dp c d) (g : DatL dp k ds) : DatL dp (c + 1 + k) (d :: ds) :=
  ⟨by show (bare d && bareL ds) = true; rw [h.br, g.br]; rfl, by show (shortB 13 d && shortL 13 ds) = true; rw [h.sh, g.sh]; rfl, by show max (dep d) (depL ds) ≤ dp; have := h.dp; have := g.dp; omega, by show cnt d + 1 + cntL ds ≤ c + 1 + k; have := h.ct; have := g.ct; omega, by show (okD d && okL ds) = true; rw [h.ok, g.ok]; rfl⟩
theorem Dat.mono {dp c dp' c' : Nat} {d : D} (h : Dat dp c d) (h1 : dp ≤ dp') (h2 : c ≤ c') : Dat dp' c' d := ⟨h.br, h.sh, Nat.le_trans h.dp h1, Nat.le_trans h.ct h2, h.ok⟩
theorem DatL.mono {dp c dp' c' : Nat} {d : List D} (h : DatL dp c d) (h1 : dp ≤ dp') (h2 : c ≤ c') : DatL dp' c' d := ⟨h.br, h.sh, Nat.le_trans h.dp h1, Nat.le_trans h.ct h2, h.ok⟩
theorem Dat.int {z : Int} (h : z.natAbs < 10 ^ 13) : Dat 0 1 (.int z) := ⟨rfl, decide_eq_true h, Nat.le_refl _, Nat.le_refl _, rfl⟩
theorem WdD : (("put" : Str) = ("add" : Str)) = False ∧ (("put" : Str) = ("copy" : Str)) = False ∧ (("put" : Str) = ("plus" : Str)) = False ∧ (("put" : Str) = ("told" : Str)) = False ∧ (("put" : Str) = ("when" : Str)) = False ∧ (("add" : Str) = ("put" : Str)) = False ∧ (("add" : Str) = ("copy" : Str)) = False ∧ (("add" : Str) = ("plus" : Str)) = False ∧ (("add" : Str) = ("told" : Str)) = False ∧ (("add" : Str) = ("when" : Str)) = False ∧ (("copy" : Str) = ("put" : Str)) = False ∧ (("copy" : Str) = ("add" : Str)) = False ∧ (("copy" : Str) = ("plus" : Str)) = False ∧ (("copy" : Str) = ("told" : Str)) = False ∧ (("copy" : Str) = ("when" : Str)) = False ∧ (("plus" : Str) = ("put" : Str)) = False ∧ (("plus" : Str) = ("add" : Str)) = False ∧ (("plus" : Str) = ("copy" : Str)) = False ∧ (("plus" : Str) = ("told" : Str)) = False ∧ (("plus" : Str) = ("when" : Str)) = False ∧ (("told" : Str) = ("put" : Str)) = False ∧ (("told" : Str) = ("add" : Str)) = False ∧ (("told" : Str) = ("copy" : Str)) = False ∧ (("told" : Str) = ("plus" : Str)) = False ∧ (("told" : Str) = ("when" : Str)) = False ∧ (("when" : Str) = ("put" : Str)) = False ∧ (("when" : Str) = ("add" : Str)) = False ∧ (("when" : Str) = ("copy" : Str)) = False ∧ (("when" : Str) = ("plus" : Str)) = False ∧ (("when" : Str) = ("told" : Str)) = False := by
  refine ⟨?_, ?_, ?_, ?_, ?_, ?_, ?_, ?_, ?_, ?_, ?_, ?_, ?_, ?_, ?_, ?_, ?_, ?_, ?_, ?_, ?_, ?_, ?_, ?_, ?_, ?_, ?_, ?_, ?_, ?_⟩ <;> exact eq_false (by decide +kernel)
theorem Dat.word {x : Str} (h : shortB 13 (.str x) = true) (h2 : okD (.str x) = true) : Dat 0 1 (.str x) := ⟨rfl, h, Nat.le_refl _, Nat.le_refl _, h2⟩
theorem Dat.deed {x : Str} {i j : Int} (h : shortB 13 (.str x) = true) (h2 : okD (.str x) = true) (hi : i.natAbs ≤ 1000) (hj : j.natAbs ≤ 1000) : Dat 1 6 (.tup [.str x, .int i, .int j]) :=
  (DatL.cons (Dat.word h h2) (DatL.cons (Dat.int (by omega)) (DatL.cons (Dat.int (by omega)) DatL.nil))).tup
def Bd : Nat → Nat
  | 0 => 30
  | k + 1 => 2 * Bd k + 30
def Cd : Nat → Nat
  | 0 => 30
  | k + 1 => 2 * Cd k + 30
theorem DatL.snoc {dp c : Nat} {d : D} : ∀ {ds : List D} {k : Nat}, DatL dp k ds → Dat dp c d → DatL dp (k + (c + 1)) (ds ++ [d])
  | [], k, _, h => (DatL.cons h DatL.nil).mono (Nat.le_refl _) (by omega)
  | e :: ds, k, g, h => by
    obtain ⟨g1, g2, g3, g4, g5⟩ := g
    have b1 := Bool.and_eq_true_iff.mp (show (bare e && bareL ds) = true from g1)
    have b2 := Bool.and_eq_true_iff.mp (show (shortB 13 e && shortL 13 ds) = true from g2)
    have b3 : max (dep e) (depL ds) ≤ dp := g3
    have b4 : cnt e + 1 + cntL ds ≤ k := g4
    have b5 := Bool.and_eq_true_iff.mp (show (okD e && okL ds) = true from g5)
    have ih := DatL.snoc (ds := ds) (k := cntL ds) ⟨b1.2, b2.2, by omega, Nat.le_refl _, b5.2⟩ h
    exact (DatL.cons ⟨b1.1, b2.1, by omega, Nat.le_refl _, b5.1⟩ ih).mono (Nat.le_refl _) (by omega)
theorem CV_deeds {many : Nat} (hm : 0 < many) (hm2 : many < 1000) : ∀ (k : Nat) {fuel n h : Nat} {S : Sto} {Q : D → Sto → Prop}, k < fuel → HD n S h → n + Bd k ≤ 1000000 →
    (∀ (ds : List De) S', deOkL many ds → ds.length ≤ 4 → DatL (2 * k + 1) (Cd k) (deL ds) → St h (n + Bd k) S S' → Q (.tup (deL ds)) S') → CV (cc_deeds fuel) [.ref h, .int many, .int k] S Q := by
  have w1 : shortB 13 (.str "put") = true := by decide +kernel
  have w2 : shortB 13 (.str "add") = true := by decide +kernel
  have w3 : shortB 13 (.str "copy") = true := by decide +kernel
  have w4 : shortB 13 (.str "plus") = true := by decide +kernel
  have w5 : shortB 13 (.str "told") = true := by decide +kernel
  have w6 : shortB 13 (.str "when") = true := by decide +kernel
  have o1 : okD (.str "put") = true := by decide +kernel
  have o2 : okD (.str "add") = true := by decide +kernel
  have o3 : okD (.str "copy") = true := by decide +kernel
  have o4 : okD (.str "plus") = true := by decide +kernel
  have o5 : okD (.str "told") = true := by decide +kernel
  have o6 : okD (.str "when") = true := by decide +kernel
  intro k
  induction k with
  | zero =>
    intro fuel n h S Q hf H hn q
    cases fuel with
    | zero => omega
    | succ fuel =>
      have hlt := H.lt
      refine CV_hand (h := h) (n := n + Bd (0)) hlt rfl ?_
      unfold b_deeds
      have B0 : Bd 0 = 30 := rfl
      (simp_arith! [])
      have hne : S.length ≠ h := by omega
      refine CV_take H.app (by omega) (by decide) (by decide) fun c S1 c0 c1 t1 => ?_
      have b1 := t1.box hne get_last
      (simp_arith! [])
      refine ⟨rg_ok (by omega) (by omega), ?_⟩
      refine SV_forI (fun r e' S' => ∃ (ds : List De) (y4 y6 y7 : Option D), ds.length + r.length ≤ 3 ∧ deOkL many ds ∧ DatL 1 (7 * ds.length) (deL ds) ∧ HD (n + 1 + 5 * ds.length) S' h ∧ Up h S S' ∧ S'[S.length]? = some (.lst (deL ds)) ∧ e' = [some (.ref h), some (.int many), some (.int (0 : Nat)), some (.ref S.length), y4, none, y6, y7]) ⟨[], none, none, none, by rw [len_rgD]; simp only [List.length_nil]; omega, trivial, DatL.nil, t1.hd, Up.trans .app t1.up, b1, rfl⟩ ?_ ?_
      · rintro d r e' S' K ⟨ds, y4, y6, y7, g1, g2, g3, g4, g5, g6, rfl⟩ hK
        rw [List.length_cons] at g1
        have add : ∀ (x : De) (S2 : Sto) (y4 y6 y7 : Option D), deOk many x → Dat 1 6 (deD x) → St h (n + 1 + 5 * ds.length + 5) S' S2 → (∃ ds0, boxAt S2 S.length = some ds0 ∧ ∃ v ds', hAppend S2 ds0 [deD x] = some (v, ds') ∧ ((∀ n, n ∈ ([] : List Nat) → (S2.set S.length (.lst ds'))[n]? = S1[n]?) ∧ K [some (.ref h), some (.int many), some (.int (0 : Nat)), some (.ref S.length), y4, none, y6, y7] (S2.set S.length (.lst ds')))) := fun x S2 y4 y6 y7 hx dx t2 => by
          have b2 := t2.box hne g6
          refine ⟨_, box_of b2, ex_append.mpr ⟨sz_le (by rw [deL_len]; omega), (fun n hn => nomatch hn), hK _ _ ⟨ds ++ [x], _, _, _, ?_, deOkL_app g2 ⟨hx, trivial⟩, ?_, (t2.hd.setNe hne).mono ?_, (g5.trans t2.up).setNew (Nat.le_refl _), ?_, rfl⟩⟩⟩
          · rw [List.length_append]; simp only [List.length_cons, List.length_nil]; omega
          · rw [deL_app, List.length_append]
            exact (g3.snoc dx).mono (Nat.le_refl _) (by simp only [List.length_cons, List.length_nil]; omega)
          · rw [List.length_append]; simp only [List.length_cons, List.length_nil]; omega
          · rw [List.getElem?_set_self (List.getElem?_eq_some_iff.mp b2).1, deL_app]
            rfl
        (simp_arith! [])
        refine CV_take g4 (by omega) (by decide) (by decide) fun i S2 i0 i1 t2 => ?_
        obtain ⟨i, rfl⟩ : ∃ j : Nat, i = (j : Int) := ⟨i.toNat, by omega⟩
        refine CV_of t2.hd (by omega) (.inr (.inl rfl)) (by simp) (by simp) ?_ fun d S3 hd t3 => ?_
        · intro d hd
          simp only [List.mem_cons, List.not_mem_nil, or_false] at hd
          rcases hd with rfl | rfl | rfl | rfl | rfl | rfl <;> rfl
        have hd2 : d = .str "put" ∨ d = .str "add" ∨ d = .str "copy" ∨ d = .str "plus" ∨ d = .str "told" := by
          simp only [List.mem_cons, List.not_mem_nil, or_false] at hd
          rcases hd with rfl | rfl | rfl | rfl | rfl | rfl <;> simp
        have t23 := t2.trans t3
        rcases hd2 with rfl | rfl | rfl | rfl | rfl
        · (simp_arith! [WdD])
          refine CV_figure t3.hd (by omega) fun f S4 f0 f1 t4 => ?_
          exact add (.put i f) S4 _ _ _ ⟨by omega, f0, f1⟩ (Dat.deed w1 o1 (by omega) (by omega)) (t23.trans t4)
        · (simp_arith! [WdD])
          refine CV_figure t3.hd (by omega) fun f S4 f0 f1 t4 => ?_
          exact add (.add i f) S4 _ _ _ ⟨by omega, f0, f1⟩ (Dat.deed w2 o2 (by omega) (by omega)) (t23.trans t4)
        · (simp_arith! [WdD])
          refine CV_take t3.hd (by omega) (by decide) (by decide) fun j S4 j0 j1 t4 => ?_
          obtain ⟨j, rfl⟩ : ∃ x : Nat, j = (x : Int) := ⟨j.toNat, by omega⟩
          exact add (.cpy i j) S4 _ _ _ ⟨by omega, by omega⟩ (Dat.deed w3 o3 (by omega) (by omega)) ((t23.trans t4).mono (by omega))
        · (simp_arith! [WdD])
          refine CV_take t3.hd (by omega) (by decide) (by decide) fun j S4 j0 j1 t4 => ?_
          obtain ⟨j, rfl⟩ : ∃ x : Nat, j = (x : Int) := ⟨j.toNat, by omega⟩
          exact add (.pls i j) S4 _ _ _ ⟨by omega, by omega⟩ (Dat.deed w4 o4 (by omega) (by omega)) ((t23.trans t4).mono (by omega))
        · (simp_arith! [WdD])
          refine CV_take t3.hd (by omega) (by omega) (by omega) fun j S4 j0 j1 t4 => ?_
          obtain ⟨j, rfl⟩ : ∃ x : Nat, j = (x : Int) := ⟨j.toNat, by omega⟩
          exact add (.tld i j) S4 _ _ _ ⟨by omega, by omega⟩ (Dat.deed w5 o5 (by omega) (by omega)) ((t23.trans t4).mono (by omega))
      · rintro e' S' ⟨ds, y4, y6, y7, g1, g2, g3, g4, g5, g6, rfl⟩
        have g1 : ds.length + 0 ≤ 3 := g1
        have bx := box_of g6
        (simp_arith! [])
        rw [if_neg (by decide)]
        (simp_arith! [bx])
        exact ⟨g4.mono (by omega), g5, .inl ⟨g3.br, fun S' hS => q ds S' g2 (by omega) (g3.mono (Nat.le_refl _) (by show 7 * ds.length ≤ 30; omega)) hS⟩⟩
  | succ k ih =>
    intro fuel n h S Q hf H hn q
    cases fuel with
    | zero => omega
    | succ fuel =>
      have hlt := H.lt
      refine CV_hand (h := h) (n := n + Bd (k + 1)) hlt rfl ?_
      unfold b_deeds
      have eB : Bd (k + 1) = 2 * Bd k + 30 := rfl
      have eC : Cd (k + 1) = 2 * Cd k + 30 := rfl
      (simp_arith! [])
      have hne : S.length ≠ h := by omega
      refine CV_take H.app (by omega) (by decide) (by decide) fun c S1 c0 c1 t1 => ?_
      have b1 := t1.box hne get_last
      (simp_arith! [])
      refine ⟨rg_ok (by omega) (by omega), ?_⟩
      refine SV_forI (fun r e' S' => ∃ (ds : List De) (y4 y6 y7 : Option D), ds.length + r.length ≤ 3 ∧ deOkL many ds ∧ DatL 1 (7 * ds.length) (deL ds) ∧ HD (n + 1 + 5 * ds.length) S' h ∧ Up h S S' ∧ S'[S.length]? = some (.lst (deL ds)) ∧ e' = [some (.ref h), some (.int many), some (.int (k + 1 : Nat)), some (.ref S.length), y4, none, y6, y7]) ⟨[], none, none, none, by rw [len_rgD]; simp only [List.length_nil]; omega, trivial, DatL.nil, t1.hd, Up.trans .app t1.up, b1, rfl⟩ ?_ ?_
      · rintro d r e' S' K ⟨ds, y4, y6, y7, g1, g2, g3, g4, g5, g6, rfl⟩ hK
        rw [List.length_cons] at g1
        have add : ∀ (x : De) (S2 : Sto) (y4 y6 y7 : Option D), deOk many x → Dat 1 6 (deD x) → St h (n + 1 + 5 * ds.length + 5) S' S2 → (∃ ds0, boxAt S2 S.length = some ds0 ∧ ∃ v ds', hAppend S2 ds0 [deD x] = some (v, ds') ∧ ((∀ n, n ∈ ([] : List Nat) → (S2.set S.length (.lst ds'))[n]? = S1[n]?) ∧ K [some (.ref h), some (.int many), some (.int (k + 1 : Nat)), some (.ref S.length), y4, none, y6, y7] (S2.set S.length (.lst ds')))) := fun x S2 y4 y6 y7 hx dx t2 => by
          have b2 := t2.box hne g6
          refine ⟨_, box_of b2, ex_append.mpr ⟨sz_le (by rw [deL_len]; omega), (fun n hn => nomatch hn), hK _ _ ⟨ds ++ [x], _, _, _, ?_, deOkL_app g2 ⟨hx, trivial⟩, ?_, (t2.hd.setNe hne).mono ?_, (g5.trans t2.up).setNew (Nat.le_refl _), ?_, rfl⟩⟩⟩
          · rw [List.length_append]; simp only [List.length_cons, List.length_nil]; omega
          · rw [deL_app, List.length_append]
            exact (g3.snoc dx).mono (Nat.le_refl _) (by simp only [List.length_cons, List.length_nil]; omega)
          · rw [List.length_append]; simp only [List.length_cons, List.length_nil]; omega
          · rw [List.getElem?_set_self (List.getElem?_eq_some_iff.mp b2).1, deL_app]
            rfl
        (simp_arith! [])
        refine CV_take g4 (by omega) (by decide) (by decide) fun i S2 i0 i1 t2 => ?_
        obtain ⟨i, rfl⟩ : ∃ j : Nat, i = (j : Int) := ⟨i.toNat, by omega⟩
        refine CV_of t2.hd (by omega) (.inr (.inl rfl)) (by simp) (by simp) ?_ fun d S3 hd t3 => ?_
        · intro d hd
          simp only [List.mem_cons, List.not_mem_nil, or_false] at hd
          rcases hd with rfl | rfl | rfl | rfl | rfl | rfl <;> rfl
        have hd2 : d = .str "put" ∨ d = .str "add" ∨ d = .str "copy" ∨ d = .str "plus" ∨ d = .str "told" := by
          simp only [List.mem_cons, List.not_mem_nil, or_false] at hd
          rcases hd with rfl | rfl | rfl | rfl | rfl | rfl <;> simp
        have t23 := t2.trans t3
        rcases hd2 with rfl | rfl | rfl | rfl | rfl
        · (simp_arith! [WdD])
          refine CV_figure t3.hd (by omega) fun f S4 f0 f1 t4 => ?_
          exact add (.put i f) S4 _ _ _ ⟨by omega, f0, f1⟩ (Dat.deed w1 o1 (by omega) (by omega)) (t23.trans t4)
        · (simp_arith! [WdD])
          refine CV_figure t3.hd (by omega) fun f S4 f0 f1 t4 => ?_
          exact add (.add i f) S4 _ _ _ ⟨by omega, f0, f1⟩ (Dat.deed w2 o2 (by omega) (by omega)) (t23.trans t4)
        · (simp_arith! [WdD])
          refine CV_take t3.hd (by omega) (by decide) (by decide) fun j S4 j0 j1 t4 => ?_
          obtain ⟨j, rfl⟩ : ∃ x : Nat, j = (x : Int) := ⟨j.toNat, by omega⟩
          exact add (.cpy i j) S4 _ _ _ ⟨by omega, by omega⟩ (Dat.deed w3 o3 (by omega) (by omega)) ((t23.trans t4).mono (by omega))
        · (simp_arith! [WdD])
          refine CV_take t3.hd (by omega) (by decide) (by decide) fun j S4 j0 j1 t4 => ?_
          obtain ⟨j, rfl⟩ : ∃ x : Nat, j = (x : Int) := ⟨j.toNat, by omega⟩
          exact add (.pls i j) S4 _ _ _ ⟨by omega, by omega⟩ (Dat.deed w4 o4 (by omega) (by omega)) ((t23.trans t4).mono (by omega))
        · (simp_arith! [WdD])
          refine CV_take t3.hd (by omega) (by omega) (by omega) fun j S4 j0 j1 t4 => ?_
          obtain ⟨j, rfl⟩ : ∃ x : Nat, j = (x : Int) := ⟨j.toNat, by omega⟩
          exact add (.tld i j) S4 _ _ _ ⟨by omega, by omega⟩ (Dat.deed w5 o5 (by omega) (by omega)) ((t23.trans t4).mono (by omega))
      · rintro e' S' ⟨ds, y4, y6, y7, g1, g2, g3, g4, g5, g6, rfl⟩
        have g1 : ds.length + 0 ≤ 3 := g1
        have bx := box_of g6
        have plain : RtH h (n + Bd (k + 1)) S Q (Out.rt (.tup (deL ds)) S') := ⟨g4.mono (by omega), g5, .inl ⟨g3.br, fun S' hS => q ds S' g2 (by omega) (g3.mono (by omega) (by omega)) hS⟩⟩
        (simp_arith! [])
        rw [if_pos (by omega : ((k + 1 : Nat) : Int) > 0)]
        refine CV_take g4 (by omega) (by decide) (by decide) fun a S2 a0 a1 t2 => ?_
        have b2 := t2.box hne g6
        have plain2 : RtH h (n + Bd (k + 1)) S Q (Out.rt (.tup (deL ds)) S2) := ⟨t2.hd.mono (by omega), g5.trans t2.up, .inl ⟨g3.br, fun S' hS => q ds S' g2 (by omega) (g3.mono (by omega) (by omega)) hS⟩⟩
        (simp_arith! [])
        by_cases ha : a = 0
        · rw [if_pos ha]
          have ek : ((k + 1 : Nat) : Int) - 1 = (k : Int) := by omega
          (simp_arith! [])
          refine ⟨rg_ok (by decide) (by decide), ?_⟩
          refine (LV_all (fun j S' => St h (n + 2 + 5 * ds.length + Bd k * (2 - j)) S2 S' ∧ j ≤ 2) (fun y => ∃ es : List De, y = .tup (deL es) ∧ deOkL many es ∧ DatL (2 * k + 1) (Cd k) (deL es)) ⟨(St.refl t2.hd).mono (by omega), by rw [len_rgD]; decide⟩ ?_).lc ?_
          · rintro d j S3 K hd ⟨t3, hj⟩ hK
            (simp_arith! [ek])
            have e2 : Bd k * (2 - j) = Bd k * (2 - (j + 1)) + Bd k := by
              rw [← Nat.mul_succ]
              congr 1
              omega
            have le2 : Bd k * (2 - j) ≤ Bd k * 2 := Nat.mul_le_mul_left _ (by omega)
            exact ih (by omega) t3.hd (by omega) fun es S4 h1 h2 h3 t4 => hK _ _ (fun n hn => nomatch hn) ⟨es, rfl, h1, h3⟩ ⟨(t3.trans t4).mono (by omega), by omega⟩
          · rintro out S3 ⟨hlo, hpo, t3, _⟩
            have hlo : out.length = 2 := hlo
            match out, hlo with
            | [x1, x2], _ =>
              obtain ⟨ea, rfl, ka, da⟩ := hpo x1 (by simp)
              obtain ⟨eb, rfl, kb, db⟩ := hpo x2 (by simp)
              have t3 := t3.mono (show _ ≤ n + 2 + 5 * ds.length + Bd k * 2 by simp)
              (simp_arith! [])
              refine CV_take t3.hd (by omega) (by decide) (by decide) fun i S4 i0 i1 t4 => ?_
              obtain ⟨i, rfl⟩ : ∃ j : Nat, i = (j : Int) := ⟨i.toNat, by omega⟩
              refine CV_figure t4.hd (by omega) fun f S5 f0 f1 t5 => ?_
              have b5 := t5.box hne (t4.box hne (t3.box hne b2))
              have l5 := (List.getElem?_eq_some_iff.mp b5).1
              have t25 := t2.trans (t3.trans (t4.trans t5))
              (simp_arith! [])
              refine ⟨_, box_of b5, ex_append.mpr ⟨sz_le (by rw [deL_len]; omega), ?_⟩⟩
              (simp_arith! [box_set l5])
              have dw : Dat (2 * (k + 1) + 1) (2 * Cd k + 8) (deD (.whn i f ea eb)) :=
                ((DatL.cons ((Dat.word w6 o6).mono (Nat.zero_le _) (Nat.le_refl _)) (DatL.cons ((Dat.int (z := (i : Int)) (by omega)).mono (Nat.zero_le _) (Nat.le_refl _)) (DatL.cons ((Dat.int (z := f) (by omega)).mono (Nat.zero_le _) (Nat.le_refl _)) (DatL.cons da.tup (DatL.cons db.tup DatL.nil))))).tup).mono (by omega) (by omega)
              have all : DatL (2 * (k + 1) + 1) (Cd (k + 1)) (deL (ds ++ [.whn i f ea eb])) := by
                rw [deL_app]
                exact ((g3.mono (by omega) (Nat.le_refl _)).snoc dw).mono (Nat.le_refl _) (by omega)
              have eq2 : deL ds ++ [.tup [.str "when", .int (i : Int), .int f, .tup (deL ea), .tup (deL eb)]] = deL (ds ++ [.whn i f ea eb]) := by rw [deL_app]; rfl
              rw [eq2]
              exact ⟨(t25.hd.setNe hne).mono (by omega), (g5.trans t25.up).setNew (Nat.le_refl _), .inl ⟨all.br, fun S' hS => q _ S' (deOkL_app g2 ⟨⟨by omega, f0, f1, ka, kb⟩, trivial⟩) (by rw [List.length_append]; simp only [List.length_cons, List.length_nil]; omega) all hS⟩⟩
        · rw [if_neg ha]
          (simp_arith! [box_of b2])
          exact plain2
end Pv
set_option Elab.async false
set_option linter.all false
set_option maxRecDepth 100000
set_option maxHeartbeats 0
namespace Pv
open PySem PySem.Spec PyProof.Rows L2
/-! doubters, ones -/
structure Dbt where
  name : Str
  scale : Nat
  rs : List Int
  stakes : List Xp
  deeds : List (List De)
def dsD (ds : List De) : D := .tup (deL ds)
def dbD (d : Dbt) : D := .tup [.str d.name, .int d.scale, .tup (d.rs.map D.int), .tup (d.stakes.map exD), .tup (d.deeds.map dsD)]
structure DbOk (many l : Nat) (d : Dbt) : Prop where
  nm : d.name = "a" ∨ d.name = "doubter" ∨ d.name = "sceptics" ∨ d.name = "zz"
  sc : d.scale < 5
  rl : d.rs.length = 4
  rb : ∀ r, r ∈ d.rs → -1000 ≤ r ∧ r ≤ 1000
  sl : d.stakes.length = many
  st : ∀ e, e ∈ d.stakes → exOk many e ∧ lev e ≤ l + 2 ∧ -500 ≤ (sp e).1 ∧ (sp e).2 ≤ 500
  dl : d.deeds.length = many
  de : ∀ x, x ∈ d.deeds → deOkL many x ∧ x.length ≤ 4 ∧ DatL 3 90 (deL x)
theorem DatL.all {dp c : Nat} : ∀ {ds : List D}, (∀ d, d ∈ ds → Dat dp c d) → DatL dp ((c + 1) * ds.length) ds
  | [], _ => DatL.nil
  | d :: ds, h => (DatL.cons (h d (List.mem_cons_self ..)) (DatL.all fun e he => h e (List.mem_cons_of_mem _ he))).mono (Nat.le_refl _) (by rw [List.length_cons, Nat.mul_succ]; omega)
theorem Dat.ex {many : Nat} (hm : many ≤ 1000) {e : Xp} (h : exOk many e) : Dat (lev e + 1) (Cn (lev e)) (exD e) := by
  obtain ⟨h1, h2, h3⟩ := ex_data hm e h
  exact ⟨exD_bare e, h1, by omega, h3, okD_ex e⟩
theorem Dat.ints {ns : List Int} (h : ∀ n, n ∈ ns → n.natAbs < 10 ^ 13) : Dat 1 (2 * ns.length) (.tup (ns.map D.int)) :=
  (DatL.all (dp := 0) (c := 1) fun d hd => by
    obtain ⟨n, hn, rfl⟩ := List.mem_map.mp hd
    exact Dat.int (h n hn)).tup.mono (Nat.le_refl _) (by rw [List.length_map]; exact Nat.le_refl _)
theorem DbOk.dat {many l : Nat} {d : Dbt} (h : DbOk many l d) (hm : many ≤ 3) : Dat (l + 6) (3 * Cn (l + 2) + 300) (dbD d) := by
  have nm : shortB 13 (.str d.name) = true ∧ okD (.str d.name) = true := by
    rcases h.nm with e | e | e | e <;> rw [e] <;> exact ⟨by decide +kernel, by decide +kernel⟩
  have s1 : Dat (l + 4) ((Cn (l + 2) + 1) * 3) (.tup (d.stakes.map exD)) := by
    refine (DatL.all (dp := l + 3) (c := Cn (l + 2)) fun x hx => ?_).tup.mono (Nat.le_refl _) (by rw [List.length_map, h.sl]; exact Nat.mul_le_mul_left _ hm)
    obtain ⟨e, he, rfl⟩ := List.mem_map.mp hx
    obtain ⟨h1, h2, _⟩ := h.st e he
    exact (Dat.ex (by omega) h1).mono (by omega) (Cn_mono h2)
  have s2 : Dat 5 (91 * 3) (.tup (d.deeds.map dsD)) := by
    refine (DatL.all (dp := 4) (c := 90) fun x hx => ?_).tup.mono (Nat.le_refl _) (by rw [List.length_map, h.dl]; exact Nat.mul_le_mul_left _ hm)
    obtain ⟨e, he, rfl⟩ := List.mem_map.mp hx
    exact (h.de e he).2.2.tup
  have s3 : Dat 1 8 (.tup (d.rs.map D.int)) := (Dat.ints fun n hn => by have := h.rb n hn; omega).mono (Nat.le_refl _) (by rw [h.rl]; exact Nat.le_refl _)
  have s4 := h.sc
  exact ((DatL.cons ((Dat.word nm.1 nm.2).mono (Nat.zero_le _) (Nat.le_refl _)) (DatL.cons ((Dat.int (z := (d.scale : Int)) (by omega)).mono (Nat.zero_le _) (Nat.le_refl _)) (DatL.cons (s3.mono (by omega) (Nat.le_refl _)) (DatL.cons (s1.mono (show l + 4 ≤ l + 5 by omega) (Nat.le_refl _)) (DatL.cons (s2.mono (by omega) (Nat.le_refl _)) DatL.nil))))).tup).mono (Nat.le_refl _) (by omega)
theorem exs_of' {P : Xp → Prop} : ∀ out : List D, (∀ y, y ∈ out → ∃ e, y = exD e ∧ P e) → ∃ es : List Xp, out = es.map exD ∧ ∀ e, e ∈ es → P e
  | [], _ => ⟨[], rfl, fun p hp => nomatch hp⟩
  | y :: out, hp => by
    obtain ⟨p, rfl, hp1⟩ := hp y (List.mem_cons_self ..)
    obtain ⟨es, rfl, hr⟩ := exs_of' out fun y hy => hp y (List.mem_cons_of_mem _ hy)
    exact ⟨p :: es, rfl, fun p' hp' => by rcases List.mem_cons.mp hp' with rfl | z; exact hp1; exact hr p' z⟩
theorem des_of' {P : List De → Prop} : ∀ out : List D, (∀ y, y ∈ out → ∃ e, y = dsD e ∧ P e) → ∃ es : List (List De), out = es.map dsD ∧ ∀ e, e ∈ es → P e
  | [], _ => ⟨[], rfl, fun p hp => nomatch hp⟩
  | y :: out, hp => by
    obtain ⟨p, rfl, hp1⟩ := hp y (List.mem_cons_self ..)
    obtain ⟨es, rfl, hr⟩ := des_of' out fun y hy => hp y (List.mem_cons_of_mem _ hy)
    exact ⟨p :: es, rfl, fun p' hp' => by rcases List.mem_cons.mp hp' with rfl | z; exact hp1; exact hr p' z⟩
def Bb (l : Nat) : Nat := 2 + 3 * (5 + Be l) + 3 * 90 + 12
theorem CV_doubter {S : Sto} {h n many l fuel : Nat} {Q : D → Sto → Prop} (hm : many = 2 ∨ many = 3) (hl : l < 5) (hf : 1 < fuel) (H : HD n S h) (hn : n + Bb l ≤ 1000000) (q : ∀ (d : Dbt) S', DbOk many l d → St h (n + Bb l) S S' → Q (dbD d) S') : CV (c_doubter fuel) [.ref h, .int many, .int l, .int 1] S Q := by
  have hlt := H.lt
  have eB : Bb l = 2 + 3 * (5 + Be l) + 3 * 90 + 12 := rfl
  have B1 : Bd 1 = 90 := rfl
  have C1 : Cd 1 = 90 := rfl
  refine CV_hand (h := h) (n := n + Bb l) hlt rfl ?_
  unfold b_doubter
  (simp_arith! [])
  refine CV_of H (by omega) (.inr (.inl rfl)) (by simp) (by simp) ?_ fun d S1 hd t1 => ?_
  · intro d hd
    simp only [List.mem_cons, List.not_mem_nil, or_false] at hd
    rcases hd with rfl | rfl | rfl | rfl <;> rfl
  obtain ⟨x, rfl, hx⟩ : ∃ x : Str, d = .str x ∧ (x = "a" ∨ x = "doubter" ∨ x = "sceptics" ∨ x = "zz") := by
    simp only [List.mem_cons, List.not_mem_nil, or_false] at hd
    rcases hd with rfl | rfl | rfl | rfl
    · exact ⟨_, rfl, .inl rfl⟩
    · exact ⟨_, rfl, .inr (.inl rfl)⟩
    · exact ⟨_, rfl, .inr (.inr (.inl rfl))⟩
    · exact ⟨_, rfl, .inr (.inr (.inr rfl))⟩
  refine CV_take t1.hd (by omega) (by decide) (by decide) fun s S2 s0 s1 t2 => ?_
  obtain ⟨s, rfl⟩ : ∃ j : Nat, s = (j : Int) := ⟨s.toNat, by omega⟩
  have t12 := t1.trans t2
  (simp_arith! [])
  refine ⟨rg_ok (by omega) (by omega), ?_⟩
  refine (LV_all (fun j S' => St h (n + 2 + (5 + Be l) * (many - j)) S S' ∧ j ≤ many) (fun y => ∃ e, y = exD e ∧ exOk many e ∧ lev e ≤ l + 2 ∧ -500 ≤ (sp e).1 ∧ (sp e).2 ≤ 500) ⟨t12.mono (by omega), by rw [len_rgD]; omega⟩ ?_).lc ?_
  · rintro d j S3 K hd ⟨t3, hj⟩ hK
    (simp_arith! [])
    have e2 : (5 + Be l) * (many - j) = (5 + Be l) * (many - (j + 1)) + (5 + Be l) := by
      rw [← Nat.mul_succ]
      congr 1
      omega
    have le2 : (5 + Be l) * (many - j) ≤ (5 + Be l) * 3 := Nat.mul_le_mul_left _ (by omega)
    exact CV_stake (by omega) (by omega) hl t3.hd (by omega) fun e S4 h1 h2 h3 h4 t4 => hK _ _ (fun n hn => nomatch hn) ⟨e, rfl, h1, h2, h3, h4⟩ ⟨(t3.trans t4).mono (by omega), by omega⟩
  rintro out S3 ⟨hlo, hpo, t3, _⟩
  obtain ⟨es, rfl, hes⟩ := exs_of' out hpo
  have hle : es.length = many := by rw [List.length_map, len_rgD] at hlo; omega
  have le3 : (5 + Be l) * (many - 0) ≤ (5 + Be l) * 3 := Nat.mul_le_mul_left _ (by omega)
  have t3 := t3.mono (show _ ≤ n + 2 + 3 * (5 + Be l) by omega)
  refine ⟨sz_le (by rw [List.length_map]; omega), ?_⟩
  (simp_arith! [])
  refine ⟨rg_ok (by omega) (by omega), ?_⟩
  refine (LV_all (fun j S' => St h (n + 2 + 3 * (5 + Be l) + 90 * (many - j)) S S' ∧ j ≤ many) (fun y => ∃ e, y = dsD e ∧ deOkL many e ∧ e.length ≤ 4 ∧ DatL 3 90 (deL e)) ⟨t3.mono (by omega), by rw [len_rgD]; omega⟩ ?_).lc ?_
  · rintro d j S4 K hd ⟨t4, hj⟩ hK
    (simp_arith! [])
    exact CV_deeds (by omega) (by omega) 1 hf t4.hd (by omega) fun e S5 h1 h2 h3 t5 => hK _ _ (fun n hn => nomatch hn) ⟨e, rfl, h1, h2, h3⟩ ⟨(t4.trans t5).mono (by omega), by omega⟩
  rintro out S4 ⟨hlo2, hpo2, t4, _⟩
  obtain ⟨fs, rfl, hfs⟩ := des_of' out hpo2
  have hle2 : fs.length = many := by rw [List.length_map, len_rgD] at hlo2; omega
  refine ⟨sz_le (by rw [List.length_map]; omega), ?_⟩
  (simp_arith! [])
  refine CV_registers t4.hd (by omega) fun rs S5 rl rb t5 => ?_
  have t := t4.trans t5
  have ok : DbOk many l ⟨x, s, rs, es, fs⟩ := ⟨hx, (show s < 5 by omega), rl, rb, hle, hes, hle2, hfs⟩
  (simp_arith! [])
  exact ⟨t.hd.mono (by omega), t.up, .inl ⟨(ok.dat (by omega)).br, fun S' hS => q ⟨x, s, rs, es, fs⟩ S' ok hS⟩⟩
/-- a one's numbers -/
structure One where
  rs : List Int
  weight : Int
  purse : Int
  owed : Int
  days : Int
  got : Int
def onD (d : D) (o : One) : D := .tup [.str "one", d, .tup (o.rs.map D.int), .int o.weight, .int o.purse, .int o.owed, .int o.days, .int o.got]
structure OnOk (o : One) : Prop where
  rl : o.rs.length = 4
  rb : ∀ r, r ∈ o.rs → -1000 ≤ r ∧ r ≤ 1000
  we : 1 ≤ o.weight ∧ o.weight ≤ 10 ^ 12
  pu : 0 ≤ o.purse ∧ o.purse ≤ 3 * 10 ^ 12
  ow : 0 ≤ o.owed ∧ o.owed ≤ 98
  da : 0 ≤ o.days ∧ o.days < 40
  go : -5000000000 ≤ o.got ∧ o.got ≤ 10 ^ 10
theorem CV_one {S : Sto} {h n : Nat} {d : D} {Q : D → Sto → Prop} (hd : bare d = true) (H : HD n S h) (hn : n + 21 ≤ 1000000) (q : ∀ (o : One) S', OnOk o → St h (n + 21) S S' → Q (onD d o) S') : CV c_one [.ref h, d] S Q := by
  have hlt := H.lt
  refine CV_hand (h := h) (n := n + 21) hlt rfl ?_
  unfold b_one
  have p12 : (10 : Int) ^ Int.toNat 12 = 10 ^ 12 := rfl
  have p6 : (10 : Int) ^ Int.toNat 6 = 10 ^ 6 := rfl
  have p9 : (10 : Int) ^ Int.toNat 9 = 10 ^ 9 := rfl
  have p10 : (10 : Int) ^ Int.toNat 10 = 10 ^ 10 := rfl
  have k12 : powOk 10 12 = true := by decide +kernel
  have k6 : powOk 10 6 = true := by decide +kernel
  have k9 : powOk 10 9 = true := by decide +kernel
  have k10 : powOk 10 10 = true := by decide +kernel
  (simp_arith! [p12, p6, p9, p10, k12, k6, k9, k10])
  refine CV_take H (by omega) (by decide) (by decide) fun a S1 a0 a1 t1 => ?_
  (simp_arith! [])
  refine CV_of t1.hd (by omega) (.inr (.inl rfl)) (by simp) (by simp) ?_ fun x S2 hx t2 => ?_
  · intro d hd
    simp only [List.mem_cons, List.not_mem_nil, or_false] at hd
    rcases hd with rfl | rfl | rfl | rfl | rfl | rfl <;> rfl
  obtain ⟨w, rfl, w0, w1⟩ : ∃ w : Int, x = .int w ∧ 1 ≤ w ∧ w ≤ 10 ^ 12 := by
    simp only [List.mem_cons, List.not_mem_nil, or_false] at hx
    rcases hx with rfl | rfl | rfl | rfl | rfl | rfl <;> exact ⟨_, rfl, by omega, by omega⟩
  clear hx
  (simp_arith! [p12, p6, p9, p10, k12, k6, k9, k10])
  refine ⟨sm_mul (sm_k (by decide)) (sm_k (by omega)), ?_⟩
  refine CV_take t2.hd (by omega) (by decide) (by decide) fun b S3 b0 b1 t3 => ?_
  (simp_arith! [])
  refine CV_of t3.hd (by omega) (.inr (.inl rfl)) (by simp) (by simp) ?_ fun x S4 hx t4 => ?_
  · intro d hd
    simp only [List.mem_cons, List.not_mem_nil, or_false] at hd
    rcases hd with rfl | rfl | rfl | rfl | rfl | rfl <;> rfl
  obtain ⟨p, rfl, p0, p1⟩ : ∃ p : Int, x = .int p ∧ 0 ≤ p ∧ p ≤ 3 * 10 ^ 12 := by
    simp only [List.mem_cons, List.not_mem_nil, or_false] at hx
    rcases hx with rfl | rfl | rfl | rfl | rfl | rfl <;> exact ⟨_, rfl, by omega, by omega⟩
  clear hx
  (simp_arith! [])
  refine CV_take t4.hd (by omega) (by decide) (by decide) fun c S5 c0 c1 t5 => ?_
  (simp_arith! [])
  refine CV_of t5.hd (by omega) (.inr (.inl rfl)) (by simp) (by simp) ?_ fun x S6 hx t6 => ?_
  · intro d hd
    simp only [List.mem_cons, List.not_mem_nil, or_false] at hd
    rcases hd with rfl | rfl | rfl <;> rfl
  obtain ⟨o, rfl, o0, o1⟩ : ∃ o : Int, x = .int o ∧ 0 ≤ o ∧ o ≤ 98 := by
    simp only [List.mem_cons, List.not_mem_nil, or_false] at hx
    rcases hx with rfl | rfl | rfl <;> exact ⟨_, rfl, by omega, by omega⟩
  clear hx
  refine CV_take t6.hd (by omega) (by decide) (by decide) fun y S7 y0 y1 t7 => ?_
  (simp_arith! [p12, p6, p9, p10, k12, k6, k9, k10])
  refine CV_take t7.hd (by omega) (by decide) (by decide) fun e S8 e0 e1 t8 => ?_
  (simp_arith! [p12, p6, p9, p10, k12, k6, k9, k10])
  refine ⟨sm_mul (sm_k (by decide)) (sm_k (by decide)), ?_⟩
  refine CV_of t8.hd (by omega) (.inr (.inl rfl)) (by simp) (by simp) ?_ fun x S9 hx t9 => ?_
  · intro d hd
    simp only [List.mem_cons, List.not_mem_nil, or_false] at hd
    rcases hd with rfl | rfl | rfl | rfl <;> rfl
  obtain ⟨g, rfl, g0, g1⟩ : ∃ g : Int, x = .int g ∧ -5000000000 ≤ g ∧ g ≤ 10 ^ 10 := by
    simp only [List.mem_cons, List.not_mem_nil, or_false] at hx
    rcases hx with rfl | rfl | rfl | rfl <;> exact ⟨_, rfl, by omega, by omega⟩
  clear hx
  (simp_arith! [])
  refine CV_registers t9.hd (by omega) fun rs S10 rl rb t10 => ?_
  have t := t1.trans (t2.trans (t3.trans (t4.trans (t5.trans (t6.trans (t7.trans (t8.trans (t9.trans t10))))))))
  (simp_arith! [])
  have br : bare (onD d ⟨rs, w, p, o, y, g⟩) = true := by
    show (true && (bare d && (bareL (rs.map D.int) && true))) = true
    rw [hd, bareL_ints]; rfl
  refine ⟨rfl, ?_⟩
  exact ⟨t.hd.mono (by omega), t.up, .inl ⟨br, fun S' hS => q ⟨rs, w, p, o, y, g⟩ S' ⟨rl, rb, ⟨w0, w1⟩, ⟨p0, p1⟩, ⟨o0, o1⟩, ⟨y0, y1⟩, ⟨g0, g1⟩⟩ hS⟩⟩
end Pv
set_option Elab.async false
set_option linter.all false
set_option maxRecDepth 100000
namespace Pv
open PySem PySem.Spec PyProof.Rows L2
/-! repr of greater data, its numbers short -/
def reprOkB (p : PyData) : Bool := p.showable && decide (p.depth ≤ 60) && p.leavesShort 60 && decide (p.weight ≤ 250000) && !p.hasDict
def gReprB : F1 := fun S d => (pdS S d).bind fun p => if reprOkB p = true then some (.str p.shown) else none
theorem b_reprB {X : Cx} (hA : ∃ k, RG k X.A) : CallR X (.builtin "repr") (rN X.K (fn1 gReprB)) := by
  rintro pins s σ H xs us Q I r ⟨Z, m, as, d, rfl, si, ra, hf, q⟩
  obtain ⟨a, rfl, hf⟩ := fn1_inv hf
  obtain ⟨x, rfl, rx⟩ := ra.one_inv
  obtain ⟨p, h1, hf⟩ := Option.bind_eq_some_iff.mp hf
  obtain ⟨hz, rfl⟩ := ite_some hf
  obtain ⟨k, hr⟩ := hA
  unfold reprOkB at hz
  simp only [Bool.and_eq_true, decide_eq_true_eq, Bool.not_eq_true'] at hz
  obtain ⟨⟨⟨⟨z1, z2⟩, z3⟩, z4⟩, z5⟩ := hz
  have dp := si.dp rx h1
  obtain ⟨u, rfl, ru⟩ := vals1 r
  have hsz : p.shown.length ≤ sizeLine := by
    have := PyData.shown_le 60 (by decide) p z3
    have h2 : (60 + 2) * p.weight ≤ 62 * 250000 := Nat.mul_le_mul (Nat.le_refl _) z4
    rw [sizeLine_eq]
    omega
  have hun := hr.room.un
  cases dp with
  | non =>
    cases ru
    exact PySem.P.repr_of_none ⟨.str "None", m.H, I.tok _, ⟨_, rfl⟩, q m _ rfl (.refl si) rfl⟩
  | bl b =>
    cases ru
    exact PySem.P.repr_of_bool ⟨.str _, m.H, I.tok _, ⟨_, rfl⟩, q m _ rfl (.refl si) rfl⟩
  | int i =>
    obtain ⟨t, rfl⟩ := ru
    exact PySem.P.repr_of_int (by simpa [PyData.showable] using z1) ⟨.str _, m.H, I.tok _, ⟨_, rfl⟩, q m _ rfl (.refl si) rfl⟩
  | str y =>
    obtain ⟨t, rfl⟩ := ru
    exact PySem.P.repr_of_str ⟨.str _, m.H, I.tok _, ⟨_, rfl⟩, q m _ rfl (.refl si) rfl⟩ hsz
  | lst h2 h3 =>
    cases ru
    obtain ⟨as, rd⟩ := Dp.reads I _ _ _ (Dp.lst h2 h3) rfl
    exact repr_of_reads' rd z1 (fun z => by rw [z5] at z; cases z) hr.gd (by omega) (fun _ _ e => e) (fun h' u tk hk => ⟨.str _, m.H, I.kept hk, ⟨_, rfl⟩, q m _ rfl (.refl si) rfl⟩) hsz
  | tup h2 h3 =>
    cases ru
    obtain ⟨as, rd⟩ := Dp.reads I _ _ _ (Dp.tup h2 h3) rfl
    exact repr_of_reads' rd z1 (fun z => by rw [z5] at z; cases z) hr.gd (by omega) (fun _ _ e => e) (fun h' u tk hk => ⟨.str _, m.H, I.kept hk, ⟨_, rfl⟩, q m _ rfl (.refl si) rfl⟩) hsz
mutual
theorem short_60 {k : Nat} (hk : 0 < k) (hk2 : k ≤ 50) : ∀ d : D, shortB k d = true → (pd d).leavesShort 60 = true
  | .non, _ => rfl
  | .bl b, _ => rfl
  | .int i, h => by
    have h : i.natAbs < 10 ^ k := of_decide_eq_true h
    have e := int_text_length_le10 hk h
    refine decide_eq_true ?_
    show (Str.ofString (toString i)).length ≤ 60
    rw [PySem.ofString_length]; omega
  | .str x, h => by
    obtain ⟨h, _⟩ := Bool.and_eq_true_iff.mp h
    exact (Bool.and_eq_true_iff.mp h).2
  | .tup xs, h => short_60L hk hk2 xs h
  | .lst xs, h => short_60L hk hk2 xs h
  | .rol xs, h => short_60L hk hk2 xs h
  | .dic _ _, h => nomatch h
  | .ref _, h => nomatch h
theorem short_60L {k : Nat} (hk : 0 < k) (hk2 : k ≤ 50) : ∀ ds : List D, shortL k ds = true → PyData.leavesShortAll 60 (pdL ds) = true
  | [], _ => rfl
  | d :: ds, h => by
    obtain ⟨h1, h2⟩ := Bool.and_eq_true_iff.mp h
    show ((pd d).leavesShort 60 && PyData.leavesShortAll 60 (pdL ds)) = true
    rw [short_60 hk hk2 d h1, short_60L hk hk2 ds h2]
    rfl
end
theorem r_reprB {S : Sto} {d : D} (k : Nat) (h : shortB k d = true) (h1 : dep d ≤ 60) (h2 : cnt d * (4 * k) ≤ 250000) (hk : 0 < k := by decide) (hk2 : k ≤ 50 := by decide) : gReprB S d = some (.str (pd d).shown) := by
  obtain ⟨a, b, c, e, f, g⟩ := short_pd hk d h
  unfold gReprB
  rw [pdS_short hk h, Option.bind_some, if_pos]
  unfold reprOkB
  rw [(e (by omega)).1, short_60 hk hk2 d h, f, b, decide_eq_true h1, decide_eq_true (Nat.le_trans g h2)]
  rfl
theorem Dat.repr {dp c : Nat} {S : Sto} {d : D} (h : Dat dp c d) (h1 : dp ≤ 60) (h2 : c ≤ 4800) : gReprB S d = some (.str (pd d).shown) :=
  r_reprB 13 h.sh (Nat.le_trans h.dp h1) (Nat.le_trans (Nat.mul_le_mul_right _ (Nat.le_trans h.ct h2)) (by decide))
end Pv
set_option Elab.async false
set_option linter.all false
set_option maxRecDepth 100000
namespace Pv
open PySem PySem.Spec PyProof.Rows L2
/-! [e for x in xs for y in t], t a tuple -/
open Classical in
noncomputable def lcL2 (g : GX) (f1 : EX) (g1 : GX) (te : EX) (vs1 gs : List Nat) (S0 : Sto) (e0 : En) : List D → Sto → Option (List D × Sto)
  | [], S => some ([], S)
  | d :: ds, S => (g d e0 S).bind fun p => (f1 p.1 p.2).bind fun q => match q.1 with
    | .tup ds1 => (lcL g1 tYes' te [] [] (wipeE p.1 vs1) ds1 q.2).bind fun u => if (∀ n, n ∈ gs → u.2[n]? = S0[n]?) then (lcL2 g f1 g1 te vs1 gs S0 e0 ds u.2).map fun z => (u.1 ++ z.1, z.2) else none
    | _ => none
noncomputable def lLc2 (it : IX) (g : GX) (f1 : EX) (g1 : GX) (te : EX) (vs vs1 : List Nat) : LX := fun e S => (it e S).bind fun p => (lcL2 g f1 g1 te vs1 p.2.1 p.2.2 (wipeE e vs) p.1 p.2.2).bind fun q => if szOk q.1.length = true then some q else none
section
variable {K : PySem.W.Frag} {m m' : M} {Z : List Addr} {P : Addr}
theorem M.hide_none : (m.hide P).H P = none := by show (if P = P then none else m.H P) = none; rw [if_pos rfl]
/-- what is known with P out of sight is known -/
theorem unhide {o : HO} (s : Sim ⟨K, Z⟩ (m.hide P)) (hp : m.H P = some o) {ds : List D} {vs : List V} (h : RepL ⟨K, Z⟩ (m.hide P) ds vs) : RepL ⟨K, P :: Z⟩ m ds vs := by
  have e : (⟨(m.hide P).r, (m.hide P).S, upd (m.hide P).H P o⟩ : M) = m := by
    rw [M.hide_upd hp]
    rfl
  have q : RepL ⟨K, P :: Z⟩ ⟨(m.hide P).r, (m.hide P).S, upd (m.hide P).H P o⟩ ds vs := RepL.mono (m := m.hide P) s.bok (.laid M.hide_none) ds vs (RepL.widen (fun z hz => by
    rcases List.mem_cons.mp hz with e | e
    · exact .inr (by rw [e]; exact M.hide_none)
    · exact .inl e) ds vs h)
  rw [e] at q
  exact q
theorem unhide1 {o : HO} (s : Sim ⟨K, Z⟩ (m.hide P)) (hp : m.H P = some o) {d : D} {v : V} (h : Rep ⟨K, Z⟩ (m.hide P) d v) : Rep ⟨K, P :: Z⟩ m d v := by
  obtain ⟨x, e1, h1⟩ := (unhide s hp (RepL.one h)).one_inv
  cases e1
  exact h1
theorem ER.hide {xs : List V} {env : En} {σ : L2.St} (hp : m.H P = some (.lst xs)) (h : ER ⟨K, P :: Z⟩ m env σ) : ER ⟨K, Z⟩ (m.hide P) env σ := ⟨h.1, fun i d e => by
  obtain ⟨x, h1, h2⟩ := h.2 i d e
  exact ⟨x, h1, Rep.hide hp d x h2⟩⟩
theorem ER.unhide {o : HO} {env : En} {σ : L2.St} (s : Sim ⟨K, Z⟩ (m.hide P)) (hp : m.H P = some o) (h : ER ⟨K, Z⟩ (m.hide P) env σ) : ER ⟨K, P :: Z⟩ m env σ := ⟨h.1, fun i d e => by
  obtain ⟨x, h1, h2⟩ := h.2 i d e
  exact ⟨x, h1, unhide1 s hp h2⟩⟩
theorem sqT_hide {a : Addr} {us xs : List V} (hp : m.H P = some (.lst xs)) (h : SqT K m.H a us) : SqT K (m.hide P).H a us := by
  rcases h with h | h
  · have hne : a ≠ P := fun z => by
      subst z
      rcases h with h | ⟨o, h⟩ <;> (rw [hp] at h; cases h)
    refine .inl ?_
    rcases h with h | ⟨o, h⟩
    · exact .inl (by rw [M.hide_ne hne]; exact h)
    · exact .inr ⟨o, by rw [M.hide_ne hne]; exact h⟩
  · exact .inr h
theorem sqT_unhide {a : Addr} {us : List V} (h : SqT K (m.hide P).H a us) : SqT K m.H a us := by
  rcases h with h | h
  · have hne : a ≠ P := fun z => by
      subst z
      rcases h with h | ⟨o, h⟩ <;> (rw [M.hide_none] at h; cases h)
    refine .inl ?_
    rcases h with h | ⟨o, h⟩
    · exact .inl (by rw [M.hide_ne hne] at h; exact h)
    · exact .inr ⟨o, by rw [M.hide_ne hne] at h; exact h⟩
  · exact .inr h
theorem Tr.hide {xs ys : List V} (hz : P ∉ Z) (hp : m.H P = some (.lst xs)) (hp' : m'.H P = some (.lst ys)) (nb : ¬ Bx m P) (t : Tr ⟨K, P :: Z⟩ m m') : Tr ⟨K, Z⟩ (m.hide P) (m'.hide P) := by
  refine ⟨⟨t.ex.le, t.ex.ag, fun a o h n => ?_, fun i h1 h2 => ?_⟩, ?_⟩
  · have hne : a ≠ P := fun z => by subst z; rw [M.hide_none] at h; cases h
    rw [M.hide_ne hne] at h ⊢
    exact t.ex.pr a o h n
  · have e := t.ex.nw i h1 h2
    by_cases hc : m'.r i = P
    · show (m.hide P).H (m'.r i) = none
      rw [hc]
      exact M.hide_none
    · show (m.hide P).H (m'.r i) = none
      rw [M.hide_ne hc]
      exact e
  · rcases t.si.hide hp' with z | z
    · exact z
    · exact absurd z hz
theorem over_hide {ys : List V} : (m.over P ys).hide P = m.hide P := by
  have e : (fun a => if a = P then none else upd m.H P (.lst ys) a) = fun a => if a = P then none else m.H a := by
    funext a
    by_cases h : a = P
    · rw [if_pos h, if_pos h]
    · rw [if_neg h, if_neg h, upd_ne h]
  show (⟨m.r, m.S, fun a => if a = P then none else upd m.H P (.lst ys) a⟩ : M) = ⟨m.r, m.S, fun a => if a = P then none else m.H a⟩
  rw [e]
theorem Ex.on {m0 m6 : M} {c : C} (s' : BoxOk m') (x' : Ex m0 m') (t : Tr c m' m6) : Ex m0 m6 := by
  refine ⟨Nat.le_trans x'.le t.ex.le, fun i h => by rw [t.ex.ag i (Nat.lt_of_lt_of_le h x'.le), x'.ag i h], fun a o h n => t.ex.pr _ _ (x'.pr _ _ h n) (x'.nbx h n), fun i h1 h2 => ?_⟩
  by_cases hl : i < m'.S.length
  · rw [t.ex.ag i hl]; exact x'.nw i h1 hl
  · have e := t.ex.nw i (by omega) h2
    cases z : m0.H (m6.r i) with
    | none => rfl
    | some o =>
      by_cases hb : Bx m0 (m6.r i)
      · obtain ⟨j, hj, ej⟩ := hb
        obtain ⟨ys, ey⟩ := s' j (Nat.lt_of_lt_of_le hj x'.le)
        rw [x'.ag j hj, ej, e] at ey
        cases ey
      · rw [x'.pr _ _ z hb] at e; cases e
end
section
variable {X : Cx} {K : PySem.W.Frag}
theorem tl_lc2 {it : IX} {g : GX} {f1 : EX} {g1 : GX} {te : EX} {vs ws vs1 ws1 : List Nat} (hsub : ∀ i, i ∈ ws → i ∈ vs) (hsub1 : ∀ i, i ∈ ws1 → i ∈ vs1) {σ : L2.St} {H : Hp} {Q : VK} (h : tL K (lLc2 it g f1 g1 te vs vs1) σ H Q) :
    tLc2 (tI K it) (tG K ws g) (tT K tYes') (iTup K (tE K f1)) (tG K ws1 g1) (tT K tYes') (tE K te) vs vs1 σ H Q := by
  obtain ⟨Z, m, env, v, S', e, s, er, hf, q⟩ := h
  unfold lLc2 at hf
  obtain ⟨⟨ds, gs, S0⟩, h1, h2⟩ := Option.bind_eq_some_iff.mp hf
  obtain ⟨⟨out, S1⟩, h3, h4⟩ := Option.bind_eq_some_iff.mp h2
  obtain ⟨hz, h4⟩ := ite_some h4
  have h4e : out = v ∧ S1 = S' := by simpa using h4
  obtain ⟨rfl, rfl⟩ := h4e
  clear h4
  refine ⟨Z, m, env, ds, gs, S0, e, s, er, h1, fun m0 J q0 t0 ok => ?_⟩
  subst q0
  intro P hP
  have hPZ : P ∉ Z := (t0.si.fresh hP).2
  have hwz : ∀ z, z ∈ P :: Z → z ∈ Z ∨ m0.H z = none := fun z hz => by
    rcases List.mem_cons.mp hz with e | e
    · exact .inr (by rw [e]; exact hP)
    · exact .inl e
  refine ⟨fun i k H' => ∃ (m' : M) (acc : List D) (xs : List V) (r : List D), m'.H = H' ∧ Ex m0 m' ∧ Sim ⟨K, P :: Z⟩ m' ∧ (∀ n, n ∈ gs → m'.S[n]? = m0.S[n]?) ∧ m'.H P = some (.lst xs) ∧ RepL ⟨K, P :: Z⟩ m' acc xs ∧ k = ds.length - i ∧
      lcL2 g f1 g1 te vs1 gs m0.S (wipeE env vs) (ds.drop i) m'.S = some (r, S1) ∧ out = acc ++ r,
    ⟨ds.length, ⟨m0.r, m0.S, upd m0.H P (.lst [])⟩, [], [], out, rfl, .laid hP, Sim.apart t0.si hP, fun _ _ => rfl, upd_same, rfl, rfl, h3, rfl⟩, ?_⟩
  rintro i k H' ⟨m', acc, xs, r, rfl, x', s', gd, hx, ra, rfl, hk, ho⟩
  have nP : ¬ Bx m' P := (s'.zs P (List.mem_cons_self ..)).2
  cases hd : ds.drop i with
  | nil =>
    rw [hd] at hk
    cases hk
    have hl : ds.length ≤ i := List.drop_eq_nil_iff.mp hd
    refine .inl ⟨(ok.go (P :: Z) m' (fun _ h => List.mem_cons_of_mem _ h) hwz x' s' gd i).1 hl, ?_⟩
    have hs : Sim ⟨K, Z⟩ (m'.hide P) := by
      rcases s'.hide hx with z | z
      · exact z
      · exact absurd z hPZ
    have tt' : Tr ⟨K, Z⟩ m0 (m'.hide P) := ⟨⟨x'.le, x'.ag, fun a o h n => by rw [M.hide_ne (ne_of_none h hP)]; exact x'.pr a o h n, x'.nw⟩, hs⟩
    have qq := q (m'.hide P) P xs rfl (t0.trans s tt') (by rw [ho, List.append_nil]; exact RepL.hide hx acc xs ra) M.hide_none
    rw [M.hide_upd hx] at qq
    exact qq
  | cons d rs =>
    rw [hd] at hk
    obtain ⟨hd1, hd2⟩ := drop_cons hd
    have hil : i < ds.length := (List.getElem?_eq_some_iff.mp hd1).1
    obtain ⟨go, yl⟩ := (ok.go (P :: Z) m' (fun _ h => List.mem_cons_of_mem _ h) hwz x' s' gd i).2 d hd1
    refine .inr ⟨go, fun H2 => ∃ (m2 : M) (acc : List D) (xs : List V) (r : List D), m2.H = H2 ∧ Ex m0 m2 ∧ Sim ⟨K, P :: Z⟩ m2 ∧ (∀ n, n ∈ gs → m2.S[n]? = m0.S[n]?) ∧ m2.H P = some (.lst xs) ∧ RepL ⟨K, P :: Z⟩ m2 acc xs ∧
      lcL2 g f1 g1 te vs1 gs m0.S (wipeE env vs) rs m2.S = some (r, S1) ∧ out = acc ++ r, fun H2 ⟨m2, acc2, xs2, r2, a1, a2, a3, a4, a5, a6, a7, a8⟩ => ⟨ds.length - (i + 1), by omega, m2, acc2, xs2, r2, a1, a2, a3, a4, a5, a6, rfl, by rw [hd2]; exact a7, a8⟩, ?_⟩
    intro x H3 hy
    obtain ⟨m3, rfl, e3, t3, r3⟩ := yl x H3 hy
    obtain ⟨⟨e4, S4⟩, h4, h5⟩ := Option.bind_eq_some_iff.mp (show ((g d (wipeE env vs) m'.S).bind _) = some (r, S1) from hk)
    obtain ⟨⟨dt, S5⟩, h6, h7⟩ := Option.bind_eq_some_iff.mp h5
    cases dt <;> first | exact no2 h7 | skip
    rename_i ds1
    obtain ⟨⟨u, S6⟩, h8, h9⟩ := Option.bind_eq_some_iff.mp (show ((lcL g1 tYes' te [] [] (wipeE e4 vs1) ds1 S5).bind _) = some (r, S1) from h7)
    simp only at h9
    split at h9
    case isFalse => cases h9
    rename_i hgs
    obtain ⟨⟨r', S7⟩, h10, h11⟩ := Option.map_eq_some_iff.mp h9
    simp only [Prod.mk.injEq] at h11
    obtain ⟨hr', hS7⟩ := h11
    have er0 : ER ⟨K, P :: Z⟩ m' (wipeE env vs) (wipe σ vs) := (((er.tr s t0).widen hwz).wipe vs).ex t0.si.bok x'
    refine ⟨P :: Z, m3, wipeE env vs, d, e4, S4, rfl, t3.si, er0.tr s' t3, r3, by rw [e3]; exact h4, fun m4 σ4 q4 t4 er4 ag4 => ⟨wipe_same ag4.1 ag4.2 hsub, ?_⟩⟩
    refine ⟨P :: Z, m4, e4, true, m4.S, rfl, t4.si, er4, rfl, fun m5 q5 t5 => ?_⟩
    show (if (true : Bool) = true then _ else _)
    rw [if_pos rfl]
    refine ⟨P :: Z, m5, e4, .tup ds1, S5, rfl, t5.si, er4.tr t4.si t5, by rw [q5, q4]; exact h6, fun m6 vx q6 t6 rx => ?_⟩
    obtain ⟨a, us, rfl, sq, rl⟩ := rx
    refine ⟨a, rfl, ⟨us, sq⟩, ?_⟩
    have t36 : Tr ⟨K, P :: Z⟩ m' m6 := (t3.trans s' (t4.trans t3.si t5)).trans s' t6
    have hx6 : m6.H P = some (.lst xs) := t36.ex.pr _ _ hx nP
    have nP6 : ¬ Bx m6 P := (t36.si.zs P (List.mem_cons_self ..)).2
    have hs6 : Sim ⟨K, Z⟩ (m6.hide P) := by
      rcases t36.si.hide hx6 with z | z
      · exact z
      · exact absurd z hPZ
    have er6 : ER ⟨K, Z⟩ (m6.hide P) (wipeE e4 vs1) (wipe σ4 vs1) := (((er4.tr t4.si t5).tr t5.si t6).hide hx6).wipe vs1
    have rl6 : RepL ⟨K, Z⟩ (m6.hide P) ds1 us := RepL.hide hx6 ds1 us rl
    have sq6 := sqT_hide hx6 sq
    refine ⟨fun j k H => ∃ (m7 : M) (acc1 : List D) (xs1 : List V) (r1 : List D), m7.H = H ∧ Ex m0 m7 ∧ Sim ⟨K, P :: Z⟩ m7 ∧ Tr ⟨K, Z⟩ (m6.hide P) (m7.hide P) ∧ m7.H P = some (.lst xs1) ∧ RepL ⟨K, P :: Z⟩ m7 acc1 xs1 ∧ k = ds1.length - j ∧
      lcL g1 tYes' te [] [] (wipeE e4 vs1) (ds1.drop j) m7.S = some (r1, S6) ∧ acc ++ u = acc1 ++ r1,
      ⟨ds1.length, m6, acc, xs, u, rfl, x'.on s'.bok t36, t36.si, .refl hs6, hx6, t36.repL s' ra, rfl, by rw [q6]; exact h8, rfl⟩, ?_⟩
    rintro j k H7 ⟨m7, acc1, xs1, r1, rfl, y1, y2, y3, y4, y5, rfl, y7, y8⟩
    have nP7 : ¬ Bx m7 P := (y2.zs P (List.mem_cons_self ..)).2
    have sq7 : SqT K m7.H a us := sqT_unhide (y3.ex.sqT hs6.bok sq6)
    cases he : ds1.drop j with
    | nil =>
      rw [he] at y7
      cases y7
      have hl : ds1.length ≤ j := List.drop_eq_nil_iff.mp he
      refine .inl ⟨⟨us, sq7, by rw [rl.len]; exact hl⟩, m7, acc1, xs1, r', rfl, y1, y2, hgs, y4, y5, by rw [← hS7]; exact h10, ?_⟩
      rw [ho, ← hr', ← List.append_assoc, y8, List.append_nil]
    | cons d1 rs1 =>
      rw [he] at y7
      obtain ⟨he1, he2⟩ := drop_cons he
      have hjl : j < ds1.length := (List.getElem?_eq_some_iff.mp he1).1
      obtain ⟨v1, hv1, rv1⟩ := rl6.get he1
      have rv7 : Rep ⟨K, P :: Z⟩ m7 d1 v1 := unhide1 y3.si y4 (y3.rep hs6 rv1)
      have er7 : ER ⟨K, P :: Z⟩ m7 (wipeE e4 vs1) (wipe σ4 vs1) := ER.unhide y3.si y4 (er6.tr hs6 y3)
      refine .inr ⟨⟨us, v1, sq7, hv1⟩, fun H8 => ∃ (m8 : M) (acc1 : List D) (xs1 : List V) (r1 : List D), m8.H = H8 ∧ Ex m0 m8 ∧ Sim ⟨K, P :: Z⟩ m8 ∧ Tr ⟨K, Z⟩ (m6.hide P) (m8.hide P) ∧ m8.H P = some (.lst xs1) ∧ RepL ⟨K, P :: Z⟩ m8 acc1 xs1 ∧
        lcL g1 tYes' te [] [] (wipeE e4 vs1) rs1 m8.S = some (r1, S6) ∧ acc ++ u = acc1 ++ r1, fun H8 ⟨m8, acc2, xs2, r2, a1, a2, a3, a4, a5, a6, a7, a8⟩ => ⟨ds1.length - (j + 1), by omega, m8, acc2, xs2, r2, a1, a2, a3, a4, a5, a6, rfl, by rw [he2]; exact a7, a8⟩, ?_⟩
      rintro x1 H8 ⟨eH, hy1⟩
      subst eH
      have ex1 : v1 = x1 := Option.some.inj (hv1.symm.trans (hy1 us sq7))
      subst ex1
      obtain ⟨⟨e5, S8⟩, h12, h13⟩ := Option.bind_eq_some_iff.mp (show ((g1 d1 (wipeE e4 vs1) m7.S).bind _) = some (r1, S6) from y7)
      obtain ⟨⟨y, S9⟩, h14, h15⟩ := Option.bind_eq_some_iff.mp (show ((te e5 S8).bind _) = some (r1, S6) from h13)
      simp only at h15
      split at h15
      case isFalse hno => exact absurd (fun n (hn : n ∈ ([] : List Nat)) => nomatch hn) hno
      obtain ⟨⟨r2, S10⟩, h16, h17⟩ := Option.map_eq_some_iff.mp h15
      simp only [Prod.mk.injEq] at h17
      obtain ⟨hr2, hS10⟩ := h17
      refine ⟨P :: Z, m7, wipeE e4 vs1, d1, e5, S8, rfl, y2, er7, rv7, h12, fun m8 σ8 q8 t8 er8 ag8 => ⟨wipe_same ag8.1 ag8.2 hsub1, ?_⟩⟩
      refine ⟨P :: Z, m8, e5, true, m8.S, rfl, t8.si, er8, rfl, fun m9 q9 t9 => ?_⟩
      show (if (true : Bool) = true then _ else _)
      rw [if_pos rfl]
      refine ⟨P :: Z, m9, e5, y, S9, rfl, t9.si, er8.tr t8.si t9, by rw [q9, q8]; exact h14, fun m10 vy q10 t10 ry => ?_⟩
      have t710 : Tr ⟨K, P :: Z⟩ m7 m10 := (t8.trans y2 t9).trans y2 t10
      have hx10 : m10.H P = some (.lst xs1) := t710.ex.pr _ _ y4 nP7
      have ho2 : acc ++ u = acc1 ++ [y] ++ r2 := by rw [y8, ← hr2]; simp
      refine ⟨xs1, hx10, ?_, m10.over P (xs1 ++ [vy]), acc1 ++ [y], xs1 ++ [vy], r2, rfl, Ex.over hP (y1.on y2.bok t710), Sim.over t10.si hx10 hPZ, ?_, upd_same, ?_, ?_, ho2⟩
      · rw [y5.len]
        have := szOk_le hz
        rw [ho, ← hr', ← List.append_assoc, ho2] at this
        simp at this
        omega
      · rw [over_hide]
        exact y3.trans hs6 (t710.hide hPZ y4 hx10 nP7)
      · exact RepL.over t10.si hx10 hPZ (RepL.app (t710.repL y2 y5) (RepL.one ry))
      · show lcL g1 tYes' te [] [] (wipeE e4 vs1) rs1 m10.S = some (r2, S6)
        rw [q10, ← hS10]
        exact h16
theorem lj_lc2 {elt tg iter tg1 iter1 : Expr} {scope : Scope} {own : List (Str × Nat)} {vs1 ws ws1 : List Nat} {pos : Pos} {it : IX} {g : GX} {f1 : EX} {g1 : GX} {te : EX} (hc : X.calm = true) (hN : X.N.Nodup) (hi : IJ X tg iter it) (ok : BlkOk X.N X.env.scope scope own) (hv : ∀ i ∈ vs1, i ∈ own.map (·.2))
    (hg : ∀ (s : Shared) (H : Hp) (C : Addr) (cl : List (Str × Addr)) (fp : List Addr), GJ (X.blk s H scope (compEnvC scope cl C X.env) fp) tg ws g)
    (hi1 : ∀ (s : Shared) (H : Hp) (C : Addr) (cl : List (Str × Addr)) (fp : List Addr), EJ (X.blk s H scope (compEnvC scope cl C X.env) fp) iter1 f1)
    (hg1 : ∀ (s : Shared) (H : Hp) (C : Addr) (cl : List (Str × Addr)) (fp : List Addr), GJ (X.blk s H scope (compEnvC scope cl C X.env) fp) tg1 ws1 g1)
    (he : ∀ (s : Shared) (H : Hp) (C : Addr) (cl : List (Str × Addr)) (fp : List Addr), EJ (X.blk s H scope (compEnvC scope cl C X.env) fp) elt te) (hsub : ∀ i, i ∈ ws → i ∈ own.map (·.2)) (hsub1 : ∀ i, i ∈ ws1 → i ∈ vs1)
    (hs : ∀ x, foldedSetIterable iter X.env x = pure x := by intro _; rfl) (hs1 : ∀ env x, foldedSetIterable iter1 env x = pure x := by intro _ _; rfl) :
    LJ X (.ListComp elt [⟨tg, iter, [], 0⟩, ⟨tg1, iter1, [], 0⟩] scope pos) (lLc2 it g f1 g1 te (own.map (·.2)) vs1) :=
  pe_wk (pe_lc2 hc hN hi ok hv hg (fun _ _ _ _ _ => tsj_nil) (fun s H C cl fp => pi_tup (hi1 s H C cl fp)) hg1 (fun _ _ _ _ _ => tsj_nil) he hs hs1) fun _ _ _ h => tl_lc2 hsub hsub1 h
end
end Pv
set_option Elab.async false
set_option linter.all false
set_option maxRecDepth 100000
namespace Pv
open PySem PySem.Spec PyProof.Rows L2
/-! a text walked sign by sign -/
def sgD (x : Str) : List D := x.cps.toList.map fun c => D.str ⟨#[c]⟩
def iTxt (f : EX) : IX := fun e S => (f e S).bind fun p => match p.1 with
  | .str x => some (sgD x, [], p.2)
  | _ => none
section
variable {X : Cx} {K : PySem.W.Frag} {m : M} {tg e : Expr} {f : EX}
theorem it_txt {Z : List Addr} {x : Str} : ItOk K Z m (sgD x) [] (Its x) := ⟨fun Z' m' hz hw xx si gd i => by
  unfold sgD
  refine ⟨fun hi => (by rw [List.length_map] at hi; exact hi), fun d hd => ?_⟩
  rw [List.getElem?_map] at hd
  obtain ⟨c, hc, rfl⟩ := Option.map_eq_some_iff.mp hd
  have hc2 : x.cps[i]? = some c := by simpa using hc
  refine ⟨(Array.getElem?_eq_some_iff.mp hc2).1, fun y H3 ⟨e1, c2, h2, e2⟩ => ?_⟩
  subst e1 e2
  rw [hc2] at h2
  cases h2
  exact ⟨m', rfl, rfl, .refl si, rfl⟩⟩
theorem ij_txt (h : EJ X e f) : IJ X tg e (iTxt f) := pi_wk (pi_str h) fun σ H R ⟨Z, m, env, ds, gs, S', eH, s, er, hf, q⟩ => by
  unfold iTxt at hf
  obtain ⟨⟨d, S1⟩, h1, h2⟩ := Option.bind_eq_some_iff.mp hf
  cases d <;> first | exact no2 h2 | skip
  cases h2
  refine ⟨Z, m, env, _, _, eH, s, er, h1, fun m1 vx e1 t1 rx => ?_⟩
  cases rx
  exact ⟨_, rfl, q m1 _ e1 t1 it_txt⟩
end
theorem IV_txt {e : En} {S : Sto} {QI : List D → List Nat → Sto → Prop} {f : EX} : IV (iTxt f) e S QI ↔ EV f e S fun d S1 => ∃ x, d = .str x ∧ QI (sgD x) [] S1 := by
  unfold IV EV iTxt
  constructor
  · rintro ⟨ds, gs, S', h, q⟩
    obtain ⟨⟨d, S1⟩, h1, h2⟩ := Option.bind_eq_some_iff.mp h
    cases d <;> first | exact no2 h2 | skip
    cases h2
    exact ⟨_, _, h1, _, rfl, q⟩
  · rintro ⟨d, S1, h1, x, rfl, q⟩
    exact ⟨_, _, S1, by rw [h1]; rfl, q⟩
/-! two fors -/
def LV2 (g : GX) (f1 : EX) (g1 : GX) (te : EX) (vs1 gs : List Nat) (S0 : Sto) (e0 : En) (ds : List D) (S : Sto) (P : List D → Sto → Prop) : Prop := ∃ out S2, lcL2 g f1 g1 te vs1 gs S0 e0 ds S = some (out, S2) ∧ P out S2
theorem LV2_nil {g : GX} {f1 : EX} {g1 : GX} {te : EX} {vs1 gs : List Nat} {S0 S : Sto} {e0 : En} {P : List D → Sto → Prop} : LV2 g f1 g1 te vs1 gs S0 e0 [] S P ↔ P [] S := ⟨fun ⟨v, S', h, q⟩ => by cases h; exact q, fun q => ⟨[], S, rfl, q⟩⟩
theorem LV2_cons {g : GX} {f1 : EX} {g1 : GX} {te : EX} {vs1 gs : List Nat} {S0 S : Sto} {e0 : En} {d : D} {ds : List D} {P : List D → Sto → Prop} : LV2 g f1 g1 te vs1 gs S0 e0 (d :: ds) S P ↔ GV g d e0 S fun e1 S1 => EV f1 e1 S1 fun x S2 => ∃ ds1, x = .tup ds1 ∧ LV g1 tYes' te [] [] (wipeE e1 vs1) ds1 S2 fun u S3 => (∀ n, n ∈ gs → S3[n]? = S0[n]?) ∧ LV2 g f1 g1 te vs1 gs S0 e0 ds S3 fun r S4 => P (u ++ r) S4 := by
  unfold LV2 GV EV LV
  constructor
  · rintro ⟨out, S2, h, q⟩
    obtain ⟨⟨e1, S1⟩, h1, h⟩ := Option.bind_eq_some_iff.mp (show ((g d e0 S).bind _) = some (out, S2) from h)
    obtain ⟨⟨x, S3⟩, h2, h⟩ := Option.bind_eq_some_iff.mp h
    cases x <;> first | exact no2 h | skip
    rename_i ds1
    obtain ⟨⟨u, S4⟩, h3, h⟩ := Option.bind_eq_some_iff.mp (show ((lcL g1 tYes' te [] [] (wipeE e1 vs1) ds1 S3).bind _) = some (out, S2) from h)
    simp only at h
    split at h
    case isFalse => cases h
    rename_i hg
    obtain ⟨⟨r, S5⟩, h4, h⟩ := Option.map_eq_some_iff.mp h
    simp only [Prod.mk.injEq] at h
    obtain ⟨rfl, rfl⟩ := h
    exact ⟨e1, S1, h1, _, S3, h2, ds1, rfl, u, S4, h3, hg, r, S5, h4, q⟩
  · rintro ⟨e1, S1, h1, x, S3, h2, ds1, rfl, u, S4, h3, hg, r, S5, h4, q⟩
    refine ⟨u ++ r, S5, ?_, q⟩
    show ((g d e0 S).bind _) = _
    rw [h1]
    show ((f1 e1 S1).bind _) = _
    rw [h2]
    show ((lcL g1 tYes' te [] [] (wipeE e1 vs1) ds1 S3).bind _) = _
    rw [h3, Option.bind_some, if_pos hg, h4]
    rfl
theorem AV_lc2 {it : IX} {g : GX} {f1 : EX} {g1 : GX} {te : EX} {vs vs1 : List Nat} {e : En} {S : Sto} {QL : List D → Sto → Prop} : AV (lLc2 it g f1 g1 te vs vs1) e S QL ↔ IV it e S fun ds gs S1 => LV2 g f1 g1 te vs1 gs S1 (wipeE e vs) ds S1 fun out S2 => szOk out.length = true ∧ QL out S2 := by
  unfold AV IV LV2 lLc2
  constructor
  · rintro ⟨v, S', h, q⟩
    obtain ⟨⟨ds, gs, S1⟩, h1, h⟩ := Option.bind_eq_some_iff.mp h
    obtain ⟨⟨out, S2⟩, h2, h⟩ := Option.bind_eq_some_iff.mp h
    obtain ⟨hz, h⟩ := ite_some h
    simp only [Prod.mk.injEq] at h
    obtain ⟨rfl, rfl⟩ := h
    exact ⟨ds, gs, S1, h1, out, S2, h2, hz, q⟩
  · rintro ⟨ds, gs, S1, h1, out, S2, h2, hz, q⟩
    refine ⟨out, S2, ?_, q⟩
    rw [h1]
    show ((lcL2 g f1 g1 te vs1 gs S1 (wipeE e vs) ds S1).bind _) = _
    rw [h2]
    show (if _ then _ else _) = _
    rw [if_pos hz]
end Pv
set_option Elab.async false
set_option linter.all false
set_option maxRecDepth 100000
set_option maxHeartbeats 0
namespace Pv
open PySem PySem.Spec PyProof.Rows L2
/-! the program's doubters -/
noncomputable def b_is_registers (k_is_figure : Con) : SX := sRet (eAnd (e1 (gIs "tuple") (eVar 0)) (eAnd (e2 fEq (eCB (fn1 gLen) (aCons (eVar 0) (aNil))) (eC (.int 4))) (eCB (fn1 gAll) (aCons (eFz (lLc (iSeq (eVar 0)) (gN 1) (tYes') (eCall k_is_figure (aCons (eVar 1) (aNil))) [1])) (aNil)))))
noncomputable def b_is_name : SX := sRet (eAnd (e1 (gIs "str") (eVar 0)) (eAnd (eChain fLe fLe (eC (.int 1)) (eCB (fn1 gLen) (aCons (eVar 0) (aNil))) (eC (.int 8))) (eCB (fn1 gAll) (aCons (eFz (lLc (iTxt (eVar 0)) (gN 1) (tYes') (e2 fIn (eVar 1) (eC (.str "abcdefghijklmnopqrstuvwxyz"))) [1])) (aNil)))))
noncomputable def b_is_register (k_is_whole : Con) : SX := sRet (eCall k_is_whole (aCons (eVar 0) (aCons (eC (.int 0)) (aCons (e2 fSub (eC (.int 4)) (eC (.int 1))) (aNil)))))
noncomputable def b_is_plain_deed (k_is_register k_is_figure k_is_whole : Con) : SX := sSeq (sAsg (eVar 0) (gT 3 (gsCons (gN 2) (gsCons (gN 3) (gsCons (gN 4) (gsNil)))))) (sSeq (sIf (tOr' (tNot' (tOf (e1 (gIs "str") (eVar 2)))) (tNot' (tOf (eCall k_is_register (aCons (eVar 3) (aNil)))))) (sRet (eC (.bl false))) (sNil)) (sSeq (sIf (tOf (e2 fIn (eVar 2) (eTup (aCons (eC (.str "put")) (aCons (eC (.str "add")) (aNil)))))) (sRet (eCall k_is_figure (aCons (eVar 4) (aNil)))) (sNil)) (sSeq (sIf (tOf (e2 fIn (eVar 2) (eTup (aCons (eC (.str "copy")) (aCons (eC (.str "plus")) (aNil)))))) (sRet (eCall k_is_register (aCons (eVar 4) (aNil)))) (sNil)) (sRet (eAnd (e2 fEq (eVar 2) (eC (.str "told"))) (eCall k_is_whole (aCons (eVar 4) (aCons (eC (.int 0)) (aCons (e2 fSub (eVar 1) (eC (.int 1))) (aNil))))))))))
noncomputable def b_deeds_in (k_is_plain_deed k_deeds_in k_is_register k_is_figure : Con) : SX := sSeq (sIf (tOr' (tNot' (tOf (e1 (gIs "tuple") (eVar 0)))) (tAnd' (tOf (e2 fGt (eVar 2) (eC (.int 4)))) (tOf (e2 fNe (eVar 0) (eTup (aNil)))))) (sRet (eC .non)) (sNil)) (sSeq (sAsg (eC (.int 0)) (gN 3)) (sSeq (sFor (iSeq (eVar 0)) (gN 4) (sSeq (sIf (tOr' (tNot' (tOf (e1 (gIs "tuple") (eVar 4)))) (tOf (e2 fNotIn (eCB (fn1 gLen) (aCons (eVar 4) (aNil))) (eTup (aCons (eC (.int 3)) (aCons (eC (.int 5)) (aNil))))))) (sRet (eC .non)) (sNil)) (sSeq (sAug 3 fIAdd (eC (.int 1))) (sSeq (sIf (tOf (e2 fEq (eCB (fn1 gLen) (aCons (eVar 4) (aNil))) (eC (.int 3)))) (sIf (tNot' (tOf (eCall k_is_plain_deed (aCons (eVar 4) (aCons (eVar 1) (aNil)))))) (sRet (eC .non)) (sNil)) (sSeq (sAsgL false (lLc (iSeq (eSl fSlT (eVar 4) (oSome (eC (.int 3))) (oNo))) (gN 6) (tYes') (eCall k_deeds_in (aCons (eVar 6) (aCons (eVar 1) (aCons (e2 fAdd (eVar 2) (eC (.int 1))) (aNil))))) [6]) 5) (sSeq (sIf (tOr' (tOf (e2 fNe (e2 fIx (eVar 4) (eC (.int 0))) (eC (.str "when")))) (tOr' (tNot' (tOf (eCall k_is_register (aCons (e2 fIx (eVar 4) (eC (.int 1))) (aNil))))) (tOr' (tNot' (tOf (eCall k_is_figure (aCons (e2 fIx (eVar 4) (eC (.int 2))) (aNil))))) (tOf (e2 fIn (eC .non) (eVar 5)))))) (sRet (eC .non)) (sNil)) (sAug 3 fIAdd (eCB (fn1 gSum) (aCons (eVar 5) (aNil))))))) (sIf (tOf (e2 fGt (eVar 3) (eC (.int 20)))) (sRet (eC .non)) (sNil)))))) (sRet (eVar 3))))
noncomputable def b_is_stake (k_is_expression k_span : Con) : SX := sSeq (sIf (tNot' (tOf (eCall k_is_expression (aCons (eVar 0) (aCons (eVar 1) (aNil)))))) (sRet (eC (.bl false))) (sNil)) (sSeq (sAsg (eCall k_span (aCons (eVar 0) (aNil))) (gT 2 (gsCons (gN 4) (gsCons (gN 5) (gsNil))))) (sSeq (sAsg (e2 fMul (eC (.int 500)) (e2 fIx (eC (.tup [.int 1, .int 2, .int 4, .int 8, .int 16])) (eVar 2))) (gN 3)) (sRet (eAnd (e2 fLe (e1 fNeg (eVar 3)) (eVar 4)) (e2 fLe (eVar 5) (eVar 3))))))
noncomputable def b_is_doubter (k_is_name k_is_whole k_is_registers k_is_stake k_deeds_in : Con) : SX := sSeq (sIf (tOr' (tNot' (tOf (e1 (gIs "tuple") (eVar 0)))) (tOf (e2 fNe (eCB (fn1 gLen) (aCons (eVar 0) (aNil))) (eC (.int 5))))) (sRet (eC (.bl false))) (sNil)) (sSeq (sAsg (eVar 0) (gT 5 (gsCons (gN 2) (gsCons (gN 3) (gsCons (gN 4) (gsCons (gN 5) (gsCons (gN 6) (gsNil)))))))) (sSeq (sIf (tOr' (tNot' (tOf (eCall k_is_name (aCons (eVar 2) (aNil))))) (tOr' (tNot' (tOf (eCall k_is_whole (aCons (eVar 3) (aCons (eC (.int 0)) (aCons (eC (.int 4)) (aNil))))))) (tNot' (tOf (eCall k_is_registers (aCons (eVar 4) (aNil))))))) (sRet (eC (.bl false))) (sNil)) (sSeq (sIf (tOr' (tNot' (tOf (e1 (gIs "tuple") (eVar 5)))) (tOr' (tNot' (tOf (e1 (gIs "tuple") (eVar 6)))) (tOf (e2 fNe (eFz (lDisp (aCons (eCB (fn1 gLen) (aCons (eVar 5) (aNil))) (aCons (eCB (fn1 gLen) (aCons (eVar 6) (aNil))) (aNil))))) (eFz (lDisp (aCons (eVar 1) (aCons (eVar 1) (aNil))))))))) (sRet (eC (.bl false))) (sNil)) (sSeq (sIf (tNot' (tOf (eCB (fn1 gAll) (aCons (eFz (lLc (iSeq (eVar 5)) (gN 8) (tYes') (eCall k_is_stake (aCons (eVar 8) (aCons (eVar 1) (aCons (eVar 3) (aNil))))) [8])) (aNil))))) (sRet (eC (.bl false))) (sNil)) (sRet (eCB (fn1 gAll) (aCons (eFz (lLc (iSeq (eVar 6)) (gN 7) (tYes') (e2 fIsNot (eCall k_deeds_in (aCons (eVar 7) (aCons (eVar 1) (aCons (eC (.int 1)) (aNil))))) (eC .non)) [7])) (aNil))))))))
noncomputable def b_stakes_at (k_worth : Con) : SX := sRet (eCB (fn1 gTuple) (aCons (eFz (lLc (iSeq (e2 fIx (eVar 0) (eC (.int 3)))) (gN 3) (tYes') (eCall k_worth (aCons (eVar 3) (aCons (eVar 1) (aCons (eVar 2) (aNil))))) [3])) (aNil)))
noncomputable def b_within : SX := sRet (eCB (fn2 gMax2) (aCons (e1 fNeg (eC (.int 1000))) (aCons (eCB (fn2 gMin2) (aCons (eC (.int 1000)) (aCons (eVar 0) (aNil)))) (aNil))))
noncomputable def b_done (k_done k_mills k_within : Con) : SX := sSeq (sAsg (eBx (lCB (fnl1 gList) (aCons (eVar 1) (aNil)))) (gN 3)) (sSeq (sFor (iSeq (eVar 0)) (gN 4) (sSeq (sAsg (eSl fSlT (eVar 4) (oNo) (oSome (eC (.int 3)))) (gT 3 (gsCons (gN 5) (gsCons (gN 6) (gsCons (gN 7) (gsNil)))))) (sIf (tOf (e2 fEq (eVar 5) (eC (.str "when")))) (sAsg (eBx (lCB (fnl1 gList) (aCons (eCall k_done (aCons (e2 fIx (eVar 4) (eIf (tOf (e2 fLt (e2 fIx (eVar 3) (eVar 6)) (eVar 7))) (eC (.int 3)) (eC (.int 4)))) (aCons (eCB (fn1 gTuple) (aCons (eVar 3) (aNil))) (aCons (eVar 2) (aNil))))) (aNil)))) (gN 3)) (sIf (tOf (e2 fEq (eVar 5) (eC (.str "told")))) (sAsg (eCall k_mills (aCons (eVar 2) (aCons (eVar 7) (aNil)))) (gS (eVar 3) (eVar 6))) (sSeq (sAsg (eIf (tOf (e2 fIn (eVar 5) (eTup (aCons (eC (.str "put")) (aCons (eC (.str "add")) (aNil)))))) (eVar 7) (e2 fIx (eVar 3) (eVar 7))) (gN 8)) (sAsg (eCall k_within (aCons (eIf (tOf (e2 fIn (eVar 5) (eTup (aCons (eC (.str "put")) (aCons (eC (.str "copy")) (aNil)))))) (eVar 8) (e2 fAdd (e2 fIx (eVar 3) (eVar 6)) (eVar 8))) (aNil))) (gS (eVar 3) (eVar 6)))))))) (sRet (eCB (fn1 gTuple) (aCons (eVar 3) (aNil)))))
noncomputable def b_behind (k_done : Con) : SX := sRet (eCall k_done (aCons (e2 fIx (e2 fIx (eVar 0) (eC (.int 4))) (eVar 3)) (aCons (eVar 1) (aCons (eVar 2) (aNil)))))
noncomputable def b_bound (k_span : Con) : SX := sSeq (sAsg (eCB (fn1 gMax1) (aCons (eFz (lLc2 (iSeq (e2 fIx (eVar 0) (eC (.int 3)))) (gN 3) (eCall k_span (aCons (eVar 3) (aNil))) (gN 2) (eCB (fn1 gAbs) (aCons (eVar 2) (aNil))) [3, 2] [2])) (aNil))) (gN 1)) (sRet (eCB (fn2 gMax2) (aCons (eC (.int 1)) (aCons (e1 fNeg (e2 fDiv (e1 fNeg (eVar 1)) (e2 fIx (eC (.tup [.int 1, .int 2, .int 4, .int 8, .int 16])) (e2 fIx (eVar 0) (eC (.int 1)))))) (aNil)))))
noncomputable def b_words_met : SX := sSeq (sPar 2 3 (aCons (eBx (lDisp (aNil))) (aCons (eBx (lDisp (aCons (eTup (aCons (eVar 0) (aCons (eC (.bl true)) (aNil)))) (aNil)))) (aNil)))) (sSeq (sWhile (tOf (e2 fNe (eVar 3) (eFz (lDisp (aNil))))) (sSeq (sAsg (eMt hPop (eVar 3) aNil) (gT 2 (gsCons (gN 5) (gsCons (gN 6) (gsNil))))) (sSeq (sIf (tOf (e2 fEq (e2 fIx (eVar 5) (eC (.int 0))) (eC (.str "where")))) (sExpr (eMt hAppend (eVar 2) (aCons (eTup (aCons (eVar 5) (aCons (eVar 6) (aNil)))) (aNil)))) (sNil)) (sSeq (sAsgL false (lLc (iSeq (eSl fSlT (eVar 5) (oSome (eC (.int 1))) (oNo))) (gN 8) (tOf (e1 (gIs "tuple") (eVar 8))) (eTup (aCons (eVar 8) (aCons (eVar 6) (aNil)))) [8]) 4) (sSeq (sIf (tOf (e2 fEq (e2 fIx (eVar 5) (eC (.int 0))) (eC (.str "when")))) (sSeq (sAsg (e2 fLt (e2 fIx (eVar 1) (e2 fIx (eVar 5) (eC (.int 1)))) (e2 fIx (eVar 5) (eC (.int 2)))) (gN 7)) (sAsg (eFz (lDisp (aCons (eTup (aCons (e2 fIx (eVar 5) (eC (.int 3))) (aCons (eAnd (eVar 6) (eVar 7)) (aNil)))) (aCons (eTup (aCons (e2 fIx (eVar 5) (eC (.int 4))) (aCons (eAnd (eVar 6) (e1 fNot (eVar 7))) (aNil)))) (aNil))))) (gN 4))) (sNil)) (sExpr (eMt hExtend (eVar 3) (aCons (eFz (lRev (eVar 4))) (aNil))))))))) (sRet (eVar 2)))
noncomputable def b_jump (k_words_met k_word_jumps : Con) : SX := sSeq (sFor (iEnum' (eCall k_words_met (aCons (eVar 0) (aCons (eVar 1) (aNil))))) (gT 2 (gsCons (gN 3) (gsCons (gT 2 (gsCons (gN 5) (gsCons (gN 6) (gsNil)))) (gsNil)))) (sSeq (sAsg (eIf (tOf (eVar 6)) (eCall k_word_jumps (aCons (eVar 5) (aCons (eVar 1) (aCons (eVar 2) (aNil))))) (eC .non)) (gN 4)) (sIf (tOf (e2 fIsNot (eVar 4) (eC .non))) (sRet (eTup (aCons (eVar 3) (aCons (eVar 4) (aNil))))) (sNil)))) (sRet (eC .non))
noncomputable def b_is_even (k_jump : Con) : SX := sRet (e2 fIs (eCall k_jump (aCons (eVar 0) (aCons (eVar 1) (aCons (eVar 2) (aNil))))) (eC .non))
noncomputable def b_is_still (k_is_even : Con) : SX := sRet (eCB (fn1 gAll) (aCons (eFz (lLc (iSeq (e2 fIx (eVar 0) (eC (.int 3)))) (gN 2) (tYes') (eCall k_is_even (aCons (eVar 2) (aCons (eVar 1) (aCons (eCB (fn1 gLen) (aCons (e2 fIx (eVar 0) (eC (.int 3))) (aNil))) (aNil))))) [2])) (aNil)))
noncomputable def c_is_registers : Con := den 1 2 0 (b_is_registers c_is_figure)
noncomputable def c_is_name : Con := den 1 2 0 b_is_name
noncomputable def c_is_register : Con := den 1 1 0 (b_is_register c_is_whole)
noncomputable def c_is_plain_deed : Con := den 2 5 0 (b_is_plain_deed c_is_register c_is_figure c_is_whole)
noncomputable def cc_deeds_in : Nat → Con
  | 0 => fun _ _ => none
  | n + 1 => den 3 7 0 (b_deeds_in c_is_plain_deed (cc_deeds_in n) c_is_register c_is_figure)
noncomputable def c_is_stake (n : Nat) : Con := den 3 6 0 (b_is_stake c_is_expression (cc_span n))
noncomputable def c_is_doubter (n k : Nat) : Con := den 2 9 0 (b_is_doubter c_is_name c_is_whole c_is_registers (c_is_stake n) (cc_deeds_in k))
noncomputable def c_stakes_at (n : Nat) : Con := den 3 4 0 (b_stakes_at (cc_worth n))
noncomputable def c_within : Con := den 1 1 0 b_within
noncomputable def cc_done : Nat → Con
  | 0 => fun _ _ => none
  | n + 1 => den 3 9 0 (b_done (cc_done n) c_mills c_within)
noncomputable def c_behind (n : Nat) : Con := den 4 4 0 (b_behind (cc_done n))
noncomputable def c_bound (n : Nat) : Con := den 1 4 0 (b_bound (cc_span n))
noncomputable def c_words_met : Con := den 2 9 0 b_words_met
noncomputable def c_jump (k : Con) : Con := den 3 7 0 (b_jump c_words_met k)
noncomputable def c_is_even (k : Con) : Con := den 3 3 0 (b_is_even (c_jump k))
noncomputable def c_is_still (k : Con) : Con := den 2 3 0 (b_is_still (c_is_even k))
def xy : Xp → Yp
  | .fig n => .fig n
  | .reg i => .reg i
  | .shr i => .shr i
  | .tim n a => .tim n (xy a)
  | .byr i a => .byr i (xy a)
  | .whn i f a b => .whn i f (xy a) (xy b)
  | .whr i f a b => .whr i f (xy a) (xy b)
  | .sum a b => .sum (xy a) (xy b)
  | .les a b => .les (xy a) (xy b)
  | .lst a b => .lst (xy a) (xy b)
  | .mst a b => .mst (xy a) (xy b)
theorem yD_xy (e : Xp) : yD (xy e) = exD e := by induction e <;> simp_all [xy, yD, exD]
theorem iw_in {z lo hi : Int} (h1 : lo ≤ z) (h2 : z ≤ hi) : iw z lo hi = true := by unfold iw; rw [decide_eq_true h1, decide_eq_true h2]; rfl
theorem okY_xy {many : Nat} : ∀ e : Xp, exOk many e → okY many (xy e) = true := by
  intro e
  induction e with
  | fig n => exact fun h => iw_in h.1 h.2
  | reg i => intro h; have h : i < 4 := h; exact (iw_in (by omega) (by omega) : iw (i : Int) 0 3 = true)
  | shr i => intro h; have h : i < many := h; exact (iw_in (by omega) (by omega) : iw (i : Int) 0 ((many : Int) - 1) = true)
  | tim n a ih => intro h; obtain ⟨h1, h2, h3⟩ := h; show (iw n (-9) 9 && okY many (xy a)) = true; rw [iw_in h1 h2, ih h3]; rfl
  | byr i a ih => intro h; obtain ⟨h1, h3⟩ := h; show (iw i 0 3 && okY many (xy a)) = true; rw [iw_in (by omega) (by omega), ih h3]; rfl
  | whn i f a b iha ihb => intro h; obtain ⟨h1, h2, h3, h4, h5⟩ := h; show ((iw i 0 3 && iw f (-1000) 1000) && (okY many (xy a) && okY many (xy b))) = true; rw [iw_in (by omega) (by omega), iw_in h2 h3, iha h4, ihb h5]; rfl
  | whr i f a b iha ihb => intro h; obtain ⟨h1, h2, h3, h4, h5⟩ := h; show ((iw i 0 ((many : Int) - 1) && iw f 1 1000) && (okY many (xy a) && okY many (xy b))) = true; rw [iw_in (by omega) (by omega), iw_in h2 h3, iha h4, ihb h5]; rfl
  | sum a b iha ihb => intro h; show (okY many (xy a) && okY many (xy b)) = true; rw [iha h.1, ihb h.2]; rfl
  | les a b iha ihb => intro h; show (okY many (xy a) && okY many (xy b)) = true; rw [iha h.1, ihb h.2]; rfl
  | lst a b iha ihb => intro h; show (okY many (xy a) && okY many (xy b)) = true; rw [iha h.1, ihb h.2]; rfl
  | mst a b iha ihb => intro h; show (okY many (xy a) && okY many (xy b)) = true; rw [iha h.1, ihb h.2]; rfl
theorem deep_xy (e : Xp) : deep (xy e) = lev e + 1 := by induction e <;> simp_all [xy, deep, lev] <;> omega
def szX (e : Xp) : Nat := siz (xy e)
theorem CV_isexprX {S : Sto} {many : Nat} {e : Xp} {Q : D → Sto → Prop} (hm : many ≤ 1000) (h : exOk many e) (hl : lev e ≤ 7) (hs : szX e ≤ 40) (q : Q (.bl true) S) : CV c_is_expression [exD e, .int many] S Q := by
  obtain ⟨d1, d2, d3⟩ := ex_data hm e h
  rw [← yD_xy] at d1 d2 ⊢
  refine CV_isexpr d1 (by omega) (by unfold szX at hs; omega) ?_
  rw [okY_xy e h, decide_eq_true (by rw [deep_xy]; omega), decide_eq_true (by exact hs)]
  exact q
theorem r_all_true {S : Sto} {α : Type} (ds : List α) : gAll S (.lst (ds.map fun _ => D.bl true)) = some (.bl true) := by
  have e : (ds.map fun _ => D.bl true) = (ds.map fun _ => true).map D.bl := by rw [List.map_map]; rfl
  rw [e, r_allL]
  congr 2
  simp
/-- letters -/
def nameOk (x : Str) : Bool := decide (1 ≤ x.length) && decide (x.length ≤ 8) && (x.cps.toList.all fun c => !(Builtin.Str.occurrences ("abcdefghijklmnopqrstuvwxyz" : Str) ⟨#[c]⟩ 0 ("abcdefghijklmnopqrstuvwxyz" : Str).length 1).isEmpty)
theorem CV_isname {S : Sto} {x : Str} {Q : D → Sto → Prop} (h : nameOk x = true) (q : Q (.bl true) S) : CV c_is_name [.str x] S Q := by
  unfold nameOk at h
  simp only [Bool.and_eq_true, decide_eq_true_eq, List.all_eq_true] at h
  obtain ⟨⟨h1, h2⟩, h3⟩ := h
  refine CV_plain rfl ?_
  unfold b_is_name
  have hz : szOk x.length = true := sz_le (by omega)
  (simp_arith! [r_isSs, IV_txt, r_lenS, hz])
  rw [if_pos (by omega), if_pos (by omega)]
  (simp_arith! [])
  refine ⟨x, rfl, ?_⟩
  refine (LV_map (fun _ => .bl true) (fun n _ => rfl) fun d K hd hK => ?_).lc fun out S2 q2 => ?_
  · unfold sgD at hd
    obtain ⟨c, hc, rfl⟩ := List.mem_map.mp hd
    have e : fIn S (.str ⟨#[c]⟩) (.str "abcdefghijklmnopqrstuvwxyz") = some (.bl true) := by
      show some (D.bl _) = _
      rw [h3 c hc]
    (simp_arith! [e])
    exact hK
  · obtain ⟨rfl, rfl⟩ := q2
    refine ⟨sz_le (by rw [List.length_map]; unfold sgD; rw [List.length_map]; have : x.cps.toList.length = x.length := rfl; omega), ?_⟩
    (simp_arith! [r_all_true])
    exact RtP_same rfl q
theorem CV_isregister {S : Sto} {i : Nat} {Q : D → Sto → Prop} (h : i < 4) (q : Q (.bl true) S) : CV c_is_register [.int i] S Q := by
  refine CV_plain rfl ?_
  unfold b_is_register
  (simp_arith! [])
  refine CV_whole ?_
  rw [iw_in (by omega) (by omega)]
  exact RtP_same rfl q
theorem CV_isregisters {S : Sto} {rs : List Int} {Q : D → Sto → Prop} (h : rs.length = 4) (hb : ∀ r, r ∈ rs → -1000 ≤ r ∧ r ≤ 1000) (q : Q (.bl true) S) : CV c_is_registers [.tup (rs.map D.int)] S Q := by
  refine CV_plain rfl ?_
  unfold b_is_registers
  have e4 : decide (((rs.length : Nat) : Int) = 4) = true := decide_eq_true (by omega)
  (simp_arith! [List.length_map, e4])
  refine (LV_map (fun _ => .bl true) (fun n _ => rfl) fun d K hd hK => ?_).lc fun out S2 q2 => ?_
  · obtain ⟨r, hr, rfl⟩ := List.mem_map.mp hd
    have := hb r hr
    (simp_arith! [])
    refine CV_isfig ?_
    rw [iw_in (by omega) (by omega)]
    exact hK
  · obtain ⟨rfl, rfl⟩ := q2
    refine ⟨sz_le (by rw [List.length_map, List.length_map]; omega), ?_⟩
    (simp_arith! [r_all_true])
    exact RtP_same rfl q

theorem CV_plaindeed {S : Sto} {many : Nat} {x : De} {Q : D → Sto → Prop} (h : deOk many x) (hx : ∀ i f a b, x ≠ .whn i f a b) (q : Q (.bl true) S) : CV c_is_plain_deed [deD x, .int many] S Q := by
  refine CV_plain rfl ?_
  unfold b_is_plain_deed
  cases x with
  | put i f =>
    obtain ⟨h1, h2, h3⟩ := h
    unfold deD
    (simp_arith! [WdD, r_isSs, Bool.not_true])
    refine CV_isregister h1 ?_
    (simp_arith! [WdD, r_isSs, Bool.not_true])
    refine CV_isfig ?_
    rw [iw_in h2 h3]
    exact RtP_same rfl q
  | add i f =>
    obtain ⟨h1, h2, h3⟩ := h
    unfold deD
    (simp_arith! [WdD, r_isSs, Bool.not_true])
    refine CV_isregister h1 ?_
    (simp_arith! [WdD, r_isSs, Bool.not_true])
    refine CV_isfig ?_
    rw [iw_in h2 h3]
    exact RtP_same rfl q
  | cpy i j =>
    obtain ⟨h1, h2⟩ := h
    unfold deD
    (simp_arith! [WdD, r_isSs, Bool.not_true])
    refine CV_isregister h1 ?_
    (simp_arith! [WdD, r_isSs, Bool.not_true])
    exact CV_isregister h2 (RtP_same rfl q)
  | pls i j =>
    obtain ⟨h1, h2⟩ := h
    unfold deD
    (simp_arith! [WdD, r_isSs, Bool.not_true])
    refine CV_isregister h1 ?_
    (simp_arith! [WdD, r_isSs, Bool.not_true])
    exact CV_isregister h2 (RtP_same rfl q)
  | tld i j =>
    obtain ⟨h1, h2⟩ := h
    unfold deD
    (simp_arith! [WdD, r_isSs, Bool.not_true])
    refine CV_isregister h1 ?_
    (simp_arith! [WdD, r_isSs, Bool.not_true])
    refine CV_whole ?_
    rw [iw_in (by omega) (by omega)]
    exact RtP_same rfl q
  | whn i f a b => exact absurd rfl (hx i f a b)
mutual
def dcnt : De → Nat
  | .whn _ _ a b => 1 + (dcntL a + dcntL b)
  | _ => 1
def dcntL : List De → Nat
  | [] => 0
  | d :: ds => dcnt d + dcntL ds
end
mutual
def dnst : De → Nat
  | .whn _ _ a b => 1 + max (dnstL a) (dnstL b)
  | _ => 1
def dnstL : List De → Nat
  | [] => 0
  | d :: ds => max (dnst d) (dnstL ds)
end
theorem deD_tup {S : Sto} (x : De) : gIs "tuple" S (deD x) = some (.bl true) := by cases x <;> exact r_isTt
theorem if_bv {p : Prop} [Decidable p] {X : Option D} {P R : Prop} (h1 : p → X = some (.bl false)) (hP : P) : if p then BV X (fun d => ∃ b, d = .bl b ∧ if b = true then R else P) else P := by
  split
  · rename_i h
    exact ⟨_, h1 h, false, rfl, hP⟩
  · exact hP
theorem cut5_3 {a b c d e : D} : cutD [a, b, c, d, e] (some 3) none = [d, e] := rfl
theorem r_sum2 {S : Sto} {a b : Int} : gSum S (.lst [.int a, .int b]) = some (.int (a + b)) := by
  have := r_sumL (S := S) (ns := [a, b])
  simpa using this
theorem CV_deedsin {many : Nat} : ∀ (fuel : Nat) (ds : List De) {deep : Nat} {S : Sto} {Q : D → Sto → Prop}, deOkL many ds → dnstL ds < fuel → deep + dnstL ds ≤ 5 → dcntL ds ≤ 20 → Q (.int (dcntL ds)) S → CV (cc_deeds_in fuel) [.tup (deL ds), .int many, .int deep] S Q := by
  intro fuel
  induction fuel with
  | zero => intro ds deep S Q h1 h2; omega
  | succ fuel ih =>
    intro ds deep S Q h1 h2 h3 h4 q
    refine CV_plain rfl ?_
    unfold b_deeds_in
    (simp_arith! [Bool.not_true, r_isTt, reduceCtorEq])
    refine if_bv (fun hd => ?_) ?_
    · have : ds = [] := by
        cases ds with
        | nil => rfl
        | cons x ds =>
          exfalso
          have : 1 ≤ dnstL (x :: ds) := by
            show 1 ≤ max (dnst x) (dnstL ds)
            have : 1 ≤ dnst x := by cases x <;> simp [dnst]
            omega
          omega
      subst this
      rfl
    refine SV_forI (fun r e' S' => ∃ (rs : List De) (c : Nat) (x4 x5 x6 : Option D), r = deL rs ∧ c + dcntL rs = dcntL ds ∧ deOkL many rs ∧ dnstL rs ≤ dnstL ds ∧ S' = S ∧ e' = [some (.tup (deL ds)), some (.int many), some (.int deep), some (.int c), x4, x5, x6]) ⟨ds, 0, none, none, none, rfl, by omega, h1, Nat.le_refl _, rfl, rfl⟩ ?_ ?_
    · rintro d r e' S' K ⟨rs, c, x4, x5, x6, hr, hc, ok, hn, rfl, rfl⟩ hK
      cases rs with
      | nil => cases hr
      | cons x rs =>
        obtain ⟨rfl, rfl⟩ := List.cons.inj hr
        obtain ⟨ok1, ok2⟩ := ok
        have hc : c + (dcnt x + dcntL rs) = dcntL ds := hc
        have hn : max (dnst x) (dnstL rs) ≤ dnstL ds := hn
        have fin : ∀ (k : Nat), k = c + dcnt x → ∀ x5 x6, K [some (.tup (deL ds)), some (.int many), some (.int deep), some (.int k), some (deD x), x5, x6] S' := fun k hk x5 x6 => hK _ _ ⟨rs, k, _, _, _, rfl, by omega, ok2, by omega, rfl, rfl⟩
        by_cases hx : ∃ i f a b, x = .whn i f a b
        · obtain ⟨i, f, a, b, rfl⟩ := hx
          obtain ⟨k1, k2, k3, k4, k5⟩ := ok1
          have e1 : dcnt (.whn i f a b) = 1 + (dcntL a + dcntL b) := rfl
          have e2 : dnst (.whn i f a b) = 1 + max (dnstL a) (dnstL b) := rfl
          have ed : deD (.whn i f a b) = .tup [.str "when", .int i, .int f, .tup (deL a), .tup (deL b)] := rfl
          have n5 : fNotIn S' (.int ((5 : Nat) : Int)) (.tup [.int 3, .int 5]) = some (.bl false) := rfl
          have d5 : ¬ (((5 : Nat) : Int) = 3) := by decide
          have nn : fIn S' .non (.lst [.int (dcntL a : Int), .int (dcntL b : Int)]) = some (.bl false) := rfl
          rw [ed]
          rw [ed] at fin
          (simp_arith! [Bool.not_true, r_isTt, reduceCtorEq, n5, d5, cut5_3])
          refine LV_cons.mpr ?_
          have ed1 : (deep : Int) + 1 = ((deep + 1 : Nat) : Int) := by omega
          (simp_arith! [ed1])
          refine ih a k4 (by omega) (by omega) (by omega) ?_
          (simp_arith! [])
          refine LV_cons.mpr ?_
          (simp_arith! [ed1])
          refine ih b k5 (by omega) (by omega) (by omega) ?_
          (simp_arith! [])
          refine LV_nil.mpr ?_
          (simp_arith! [])
          refine CV_isregister k1 ?_
          (simp_arith! [reduceCtorEq])
          refine CV_isfig ?_
          rw [iw_in k2 k3]
          (simp_arith! [reduceCtorEq, nn, r_sum2])
          rw [if_neg (by omega)]
          have ec : (c : Int) + 1 + ((dcntL a : Int) + (dcntL b : Int)) = ((c + 1 + (dcntL a + dcntL b) : Nat) : Int) := by omega
          rw [ec]
          exact ⟨(fun n hn => nomatch hn), fin _ (by omega) _ _⟩
        · have hp : ∀ {Q' : D → Sto → Prop}, Q' (.bl true) S' → CV c_is_plain_deed [deD x, .int many] S' Q' := fun q' => CV_plaindeed (S := S') (x := x) ok1 (fun i f a b he => hx ⟨i, f, a, b, he⟩) q'
          have e1 : dcnt x = 1 := by cases x <;> first | rfl | exact absurd ⟨_, _, _, _, rfl⟩ hx
          have l3 : gLen S' (deD x) = some (.int 3) := by cases x <;> first | rfl | exact absurd ⟨_, _, _, _, rfl⟩ hx
          have n3 : fNotIn S' (.int 3) (.tup [.int 3, .int 5]) = some (.bl false) := rfl
          (simp_arith! [Bool.not_true, deD_tup, l3, n3, reduceCtorEq])
          refine hp ?_
          (simp_arith! [Bool.not_true, deD_tup, l3, n3, reduceCtorEq])
          rw [if_neg (by omega)]
          exact ⟨(fun n hn => nomatch hn), fin (c + 1) (by omega) _ _⟩
    · rintro e' S' ⟨rs, c, x4, x5, x6, hr, hc, ok, hn, rfl, rfl⟩
      cases rs with
      | cons x rs => cases hr
      | nil =>
        have hc : c + 0 = dcntL ds := hc
        (simp_arith! [])
        rw [show c = dcntL ds by omega]
        exact RtP_same rfl q
end Pv
set_option Elab.async false
set_option linter.all false
set_option maxRecDepth 100000
set_option maxHeartbeats 0
namespace Pv
open PySem PySem.Spec PyProof.Rows L2
/-! is_doubter, stakes_at, within, done, behind, bound -/
theorem LV_mapG {α : Type} {g : GX} {tt : TX} {te : EX} {gs : List Nat} {S0 S : Sto} {e0 : En} (g0 f : α → D) (hg : ∀ n, n ∈ gs → S[n]? = S0[n]?) : ∀ {xs : List α},
    (∀ a (K : D → Sto → Prop), a ∈ xs → K (f a) S → GV g (g0 a) e0 S fun e1 S1 => TV tt e1 S1 fun b S2 => b = true ∧ EV te e1 S2 K) →
    LV g tt te gs S0 e0 (xs.map g0) S fun out S' => out = xs.map f ∧ S' = S
  | [], _ => LV_nil.mpr ⟨rfl, rfl⟩
  | d :: ds, step => by
    refine LV_cons.mpr ?_
    obtain ⟨e1, S1, h1, b, S2, h2, hb, y, S3, h3, hp, hi⟩ := step d (fun y T => y = f d ∧ T = S) (List.mem_cons_self ..) ⟨rfl, rfl⟩
    subst hb hi hp
    refine ⟨e1, S1, h1, true, S2, h2, ?_⟩
    show (if true = true then _ else _)
    rw [if_pos rfl]
    refine ⟨_, _, h3, hg, (LV_mapG g0 f hg fun d K hd => step d K (List.mem_cons_of_mem _ hd)).imp fun out S' q => ⟨by rw [q.1]; rfl, q.2⟩⟩
structure DbG (many : Nat) (d : Dbt) : Prop where
  nm : nameOk d.name = true
  sc : d.scale < 5
  rl : d.rs.length = 4
  rb : ∀ r, r ∈ d.rs → -1000 ≤ r ∧ r ≤ 1000
  sl : d.stakes.length = many
  st : ∀ e, e ∈ d.stakes → exOk many e ∧ lev e ≤ 7 ∧ szX e ≤ 40 ∧ -(500 * 2 ^ d.scale) ≤ (sp e).1 ∧ (sp e).2 ≤ 500 * 2 ^ d.scale
  dl : d.deeds.length = many
  de : ∀ x, x ∈ d.deeds → deOkL many x ∧ dnstL x ≤ 4 ∧ dcntL x ≤ 20
theorem sc_at {s : Nat} (h : s < 5) : atI [D.int 1, D.int 2, D.int 4, D.int 8, D.int 16] (s : Int) = some (.int (2 ^ s)) := by
  have : s = 0 ∨ s = 1 ∨ s = 2 ∨ s = 3 ∨ s = 4 := by omega
  rcases this with rfl | rfl | rfl | rfl | rfl <;> rfl
theorem pw_sc {s : Nat} (h : s < 5) : (1 : Int) ≤ 2 ^ s ∧ (2 : Int) ^ s ≤ 16 := by
  have : s = 0 ∨ s = 1 ∨ s = 2 ∨ s = 3 ∨ s = 4 := by omega
  rcases this with rfl | rfl | rfl | rfl | rfl <;> decide
theorem CV_isstake {S : Sto} {many n s : Nat} {e : Xp} {Q : D → Sto → Prop} (hm : many ≤ 1000) (hs : s < 5) (h : exOk many e) (hl : lev e ≤ 7) (hn : lev e < n) (hz : szX e ≤ 40) (h1 : -(500 * 2 ^ s) ≤ (sp e).1) (h2 : (sp e).2 ≤ 500 * 2 ^ s) (q : Q (.bl true) S) : CV (c_is_stake n) [exD e, .int many, .int s] S Q := by
  have hp := pw_sc hs
  refine CV_plain rfl ?_
  unfold b_is_stake
  (simp_arith! [])
  refine CV_isexprX hm h hl hz ?_
  (simp_arith! [])
  refine CV_span e h hn (by omega) ?_
  unfold spnD
  (simp_arith! [sc_at hs, Bool.not_true])
  refine ⟨sm_mul (sm_k (by decide)) (sm_k (by omega)), ?_⟩
  rw [if_pos h1]
  rw [decide_eq_true h2]
  exact RtP_same rfl q
theorem r_ne_pair {S : Sto} {z : Int} (h : z.natAbs < 10 ^ 13) : fNe S (.lst [.int z, .int z]) (.lst [.int z, .int z]) = some (.bl false) := r_ne_self 13 (by simp [shortB, shortL]; exact h) (by simp [dep, depL])
theorem isN_int {z : Int} : isNon (.int z) = false := rfl
theorem c5 : (((5 : Nat) : Int) = 5) = True := by simp
theorem CV_isdoubter {S : Sto} {many n k : Nat} {d : Dbt} {Q : D → Sto → Prop} (hm : many ≤ 1000) (h : DbG many d) (hn : 7 < n) (hk : 4 < k) (q : Q (.bl true) S) : CV (c_is_doubter n k) [dbD d, .int many] S Q := by
  refine CV_plain rfl ?_
  unfold b_is_doubter dbD
  have hs := h.sc
  (simp_arith! [r_isTt, Bool.not_true, c5])
  refine CV_isname h.nm ?_
  (simp_arith! [Bool.not_true])
  refine CV_whole ?_
  rw [iw_in (by omega) (by omega)]
  (simp_arith! [Bool.not_true])
  refine CV_isregisters h.rl h.rb ?_
  (simp_arith! [Bool.not_true, List.length_map, h.sl, h.dl, r_isTt, r_ne_pair (show ((many : Nat) : Int).natAbs < 10 ^ 13 by omega)])
  refine (LV_mapG exD (fun _ => .bl true) (fun n _ => rfl) fun e K he hK => ?_).imp fun out S2 q2 => ?_
  · obtain ⟨h1, h2, h3, h4, h5⟩ := h.st e he
    (simp_arith! [])
    exact CV_isstake hm hs h1 h2 (by omega) h3 h4 h5 hK
  obtain ⟨rfl, rfl⟩ := q2
  refine ⟨sz_le (by rw [List.length_map, h.sl]; omega), ?_⟩
  (simp_arith! [r_all_true, Bool.not_true])
  refine (LV_mapG dsD (fun _ => .bl true) (fun n _ => rfl) fun x K hx hK => ?_).imp fun out S2 q2 => ?_
  · obtain ⟨h1, h2, h3⟩ := h.de x hx
    (simp_arith! [])
    refine CV_deedsin (deep := 1) k x h1 (by omega) (by omega) h3 ?_
    (simp_arith! [isN_int, Bool.not_false])
    exact hK
  obtain ⟨rfl, rfl⟩ := q2
  refine ⟨sz_le (by rw [List.length_map, h.dl]; omega), ?_⟩
  (simp_arith! [r_all_true])
  exact RtP_same rfl q
theorem CV_stakesat {S : Sto} {many n : Nat} {rs sh : List Int} {d : Dbt} {Q : D → Sto → Prop} (c : Ctx many rs sh) (hl : d.stakes.length ≤ 1000) (h : ∀ e, e ∈ d.stakes → exOk many e ∧ lev e < n ∧ lev e ≤ 20) (q : Q (.tup ((d.stakes.map (wv rs sh)).map D.int)) S) : CV (c_stakes_at n) [dbD d, .tup (rs.map D.int), .tup (sh.map D.int)] S Q := by
  refine CV_plain rfl ?_
  unfold b_stakes_at dbD
  (simp_arith! [])
  refine (LV_mapG exD (fun e => .int (wv rs sh e)) (fun n _ => rfl) fun e K he hK => ?_).imp fun out S2 q2 => ?_
  · obtain ⟨h1, h2, h3⟩ := h e he
    (simp_arith! [])
    exact CV_worth c e h1 h2 h3 hK
  obtain ⟨rfl, rfl⟩ := q2
  refine ⟨sz_le (by rw [List.length_map]; omega), ?_⟩
  (simp_arith! [])
  have e1 : (d.stakes.map fun e => D.int (wv rs sh e)) = (d.stakes.map (wv rs sh)).map D.int := by rw [List.map_map]; rfl
  rw [e1]
  exact RtP_same (bareL_ints _) q
def cutR (z : Int) : Int := if z < -1000 then -1000 else if 1000 < z then 1000 else z
theorem cutR_in (z : Int) : -1000 ≤ cutR z ∧ cutR z ≤ 1000 := by unfold cutR; split <;> (try split) <;> omega
theorem CV_within {S : Sto} {z : Int} {Q : D → Sto → Prop} (q : Q (.int (cutR z)) S) : CV c_within [.int z] S Q := by
  refine CV_plain rfl ?_
  unfold b_within
  (simp_arith! [])
  have e : (if (if z < 1000 then z else 1000) > -1000 then (if z < 1000 then z else 1000) else -1000) = cutR z := by
    unfold cutR
    split <;> split <;> (try split) <;> (try split) <;> omega
  rw [e]
  exact RtP_same rfl q
mutual
def goD (sh : List Int) : De → List Int → List Int
  | .put i f, rs => rs.set i (cutR f)
  | .add i f, rs => rs.set i (cutR (rs.getD i 0 + f))
  | .cpy i j, rs => rs.set i (cutR (rs.getD j 0))
  | .pls i j, rs => rs.set i (cutR (rs.getD i 0 + rs.getD j 0))
  | .tld i s, rs => rs.set i (1000 * sh.getD s 0 / sh.sum)
  | .whn i f a b, rs => if rs.getD i 0 < f then goL sh a rs else goL sh b rs
def goL (sh : List Int) : List De → List Int → List Int
  | [], rs => rs
  | d :: ds, rs => goL sh ds (goD sh d rs)
end
def Rg (rs : List Int) : Prop := rs.length = 4 ∧ ∀ r, r ∈ rs → -1000 ≤ r ∧ r ≤ 1000
theorem Rg.set {rs : List Int} (h : Rg rs) {i : Nat} {z : Int} (hz : -1000 ≤ z ∧ z ≤ 1000) : Rg (rs.set i z) := ⟨by rw [List.length_set]; exact h.1, fun r hr => by
  rcases List.mem_or_eq_of_mem_set hr with hr | rfl
  · exact h.2 r hr
  · exact hz⟩
theorem mill_in {many : Nat} {rs sh : List Int} (c : Ctx many rs sh) (hp : 0 < sh.sum) {s : Nat} (hs : s < many) : -1000 ≤ 1000 * sh.getD s 0 / sh.sum ∧ 1000 * sh.getD s 0 / sh.sum ≤ 1000 := by
  have h := c.s hs
  refine ⟨?_, ?_⟩
  · have := Int.ediv_nonneg (show 0 ≤ 1000 * sh.getD s 0 by omega) (show 0 ≤ sh.sum by omega)
    omega
  · have := Int.ediv_le_ediv hp (show 1000 * sh.getD s 0 ≤ 1000 * sh.sum by omega)
    rw [Int.mul_ediv_cancel _ (by omega)] at this
    exact this
mutual
theorem goD_Rg {many : Nat} {r0 sh : List Int} (c : Ctx many r0 sh) (hp : 0 < sh.sum) : ∀ (d : De) (rs : List Int), deOk many d → Rg rs → Rg (goD sh d rs)
  | .put i f, rs, h, g => g.set (cutR_in _)
  | .add i f, rs, h, g => g.set (cutR_in _)
  | .cpy i f, rs, h, g => g.set (cutR_in _)
  | .pls i f, rs, h, g => g.set (cutR_in _)
  | .tld i s, rs, h, g => g.set (mill_in c hp h.2)
  | .whn i f a b, rs, h, g => by
    obtain ⟨_, _, _, h1, h2⟩ := h
    show Rg (if rs.getD i 0 < f then goL sh a rs else goL sh b rs)
    split
    · exact goL_Rg c hp a rs h1 g
    · exact goL_Rg c hp b rs h2 g
theorem goL_Rg {many : Nat} {r0 sh : List Int} (c : Ctx many r0 sh) (hp : 0 < sh.sum) : ∀ (ds : List De) (rs : List Int), deOkL many ds → Rg rs → Rg (goL sh ds rs)
  | [], rs, h, g => g
  | d :: ds, rs, h, g => goL_Rg c hp ds _ h.2 (goD_Rg c hp d rs h.1 g)
end
theorem Ctx.regs {many : Nat} {rs rs' sh : List Int} (c : Ctx many rs sh) (g : Rg rs') : Ctx many rs' sh := ⟨g.1, g.2, c.sl, c.sp, c.st⟩
theorem set_new {S T : Sto} {p : Nat} {o : Ob} (h : S.length ≤ p) : (S ++ T).set p o = S ++ T.set (p - S.length) o := by rw [List.set_append_right _ _ h]
theorem map_setI {rs : List Int} {i : Nat} {z : Int} : (rs.map D.int).set i (.int z) = (rs.set i z).map D.int := by rw [List.map_set]
end Pv
set_option Elab.async false
set_option linter.all false
set_option maxRecDepth 100000
set_option maxHeartbeats 0
namespace Pv
open PySem PySem.Spec PyProof.Rows L2
/-! done, behind, bound, words_met -/
theorem cut3_3 {a b c : D} : cutD [a, b, c] none (some 3) = [a, b, c] := rfl
theorem cut5_t3 {a b c d e : D} : cutD [a, b, c, d, e] none (some 3) = [a, b, c] := rfl
theorem at4_5 {u v w z y : D} : atI [u, v, w, z, y] 4 = some y := rfl
theorem CV_done {many : Nat} {sh : List Int} (hp : 0 < sh.sum) : ∀ (fuel : Nat) (ds : List De) {rs : List Int} {S : Sto} {Q : D → Sto → Prop}, Ctx many rs sh → deOkL many ds → dnstL ds < fuel → Q (.tup ((goL sh ds rs).map D.int)) S → CV (cc_done fuel) [.tup (deL ds), .tup (rs.map D.int), .tup (sh.map D.int)] S Q := by
  intro fuel
  induction fuel with
  | zero => intro ds rs S Q c h1 h2; omega
  | succ fuel ih =>
    intro ds rs S Q c h1 h2 q
    refine CV_plain rfl ?_
    unfold b_done
    (simp_arith! [])
    refine SV_forI (fun r e' S' => ∃ (es : List De) (ts : List Int) (T : Sto) (p : Nat) (x4 x5 x6 x7 x8 : Option D), r = deL es ∧ deOkL many es ∧ dnstL es ≤ dnstL ds ∧ Rg ts ∧ goL sh es ts = goL sh ds rs ∧ S' = S ++ T ∧ S.length ≤ p ∧ S'[p]? = some (.lst (ts.map D.int)) ∧ e' = [some (.tup (deL ds)), some (.tup (rs.map D.int)), some (.tup (sh.map D.int)), some (.ref p), x4, x5, x6, x7, x8]) ⟨ds, rs, [.lst (rs.map D.int)], S.length, none, none, none, none, none, rfl, h1, Nat.le_refl _, ⟨c.rl, c.rb⟩, rfl, rfl, Nat.le_refl _, get_last, rfl⟩ ?_ ?_
    · rintro d r e' S' K ⟨es, ts, T, p, x4, x5, x6, x7, x8, hr, ok, hn, g, eg, rfl, hp1, hb, rfl⟩ hK
      cases es with
      | nil => cases hr
      | cons x es =>
        obtain ⟨rfl, rfl⟩ := List.cons.inj hr
        obtain ⟨ok1, ok2⟩ := ok
        have hn : max (dnst x) (dnstL es) ≤ dnstL ds := hn
        have eg : goL sh es (goD sh x ts) = goL sh ds rs := eg
        have gx := goD_Rg c hp x ts ok1 g
        have bx := box_of hb
        have hl : p < (S ++ T).length := (List.getElem?_eq_some_iff.mp hb).1
        have gr : ∀ {i : Nat}, i < 4 → atI (ts.map D.int) (i : Int) = some (.int (ts.getD i 0)) := fun {i} h => getD_at (by rw [g.1]; exact h)
        have ix : ∀ {i : Nat}, i < 4 → ixN ts.length (i : Int) = some i := fun {i} h => by rw [ixN_in (by omega) (by rw [g.1]; omega)]; rfl
        have fin : ∀ (z : Int) (i : Nat) (y4 y5 y6 y7 y8 : Option D), goD sh x ts = ts.set i z → K [some (.tup (deL ds)), some (.tup (rs.map D.int)), some (.tup (sh.map D.int)), some (.ref p), y4, y5, y6, y7, y8] ((S ++ T).set p (.lst ((ts.map D.int).set i (.int z)))) := by
          intro z i y4 y5 y6 y7 y8 e
          rw [map_setI, ← e]
          exact hK _ _ ⟨es, goD sh x ts, T.set (p - S.length) (.lst ((goD sh x ts).map D.int)), p, _, _, _, _, _, rfl, ok2, by omega, gx, eg, set_new hp1, hp1, List.getElem?_set_self hl, rfl⟩
        cases x with
        | put i f =>
          obtain ⟨k1, k2, k3⟩ := ok1
          unfold deD
          (simp_arith! [WdD, cut3_3, bx, gr k1, List.length_map, ix k1])
          refine CV_within ?_
          (simp_arith! [WdD, cut3_3, bx, gr k1, List.length_map, ix k1])
          exact ⟨(fun n hn => nomatch hn), fin _ i _ _ _ _ _ rfl⟩
        | add i f =>
          obtain ⟨k1, k2, k3⟩ := ok1
          unfold deD
          (simp_arith! [WdD, cut3_3, bx, gr k1, List.length_map, ix k1])
          refine CV_within ?_
          (simp_arith! [WdD, cut3_3, bx, gr k1, List.length_map, ix k1])
          exact ⟨(fun n hn => nomatch hn), fin _ i _ _ _ _ _ rfl⟩
        | cpy i j =>
          obtain ⟨k1, k2⟩ := ok1
          unfold deD
          (simp_arith! [WdD, cut3_3, bx, gr k1, gr k2, List.length_map, ix k1])
          refine CV_within ?_
          (simp_arith! [WdD, cut3_3, bx, gr k1, List.length_map, ix k1])
          exact ⟨(fun n hn => nomatch hn), fin _ i _ _ _ _ _ rfl⟩
        | pls i j =>
          obtain ⟨k1, k2⟩ := ok1
          unfold deD
          (simp_arith! [WdD, cut3_3, bx, gr k1, gr k2, List.length_map, ix k1])
          refine CV_within ?_
          (simp_arith! [WdD, cut3_3, bx, gr k1, List.length_map, ix k1])
          exact ⟨(fun n hn => nomatch hn), fin _ i _ _ _ _ _ rfl⟩
        | tld i s =>
          obtain ⟨k1, k2⟩ := ok1
          unfold deD
          (simp_arith! [WdD, cut3_3, bx, gr k1, List.length_map, ix k1])
          refine CV_mills c k2 hp ?_
          (simp_arith! [WdD, cut3_3, bx, gr k1, List.length_map, ix k1])
          exact ⟨(fun n hn => nomatch hn), fin _ i _ _ _ _ _ rfl⟩
        | whn i f a b =>
          obtain ⟨k1, k2, k3, k4, k5⟩ := ok1
          have e2 : dnst (.whn i f a b) = 1 + max (dnstL a) (dnstL b) := rfl
          have eG : goD sh (.whn i f a b) ts = if ts.getD i 0 < f then goL sh a ts else goL sh b ts := rfl
          unfold deD
          (simp_arith! [WdD, cut5_t3, bx, gr k1])
          have fin2 : ∀ (us : List Int), goD sh (.whn i f a b) ts = us → ∀ (y4 y5 y6 y7 y8 : Option D), K [some (.tup (deL ds)), some (.tup (rs.map D.int)), some (.tup (sh.map D.int)), some (.ref (S ++ T).length), y4, y5, y6, y7, y8] (S ++ T ++ [.lst (us.map D.int)]) := by
            intro us e y4 y5 y6 y7 y8
            rw [← e]
            exact hK _ _ ⟨es, _, T ++ [.lst ((goD sh (.whn i f a b) ts).map D.int)], (S ++ T).length, _, _, _, _, _, rfl, ok2, by omega, gx, eg, by rw [List.append_assoc], by rw [List.length_append]; omega, get_last, rfl⟩
          split
          · rename_i hc
            rw [if_pos hc] at eG
            (simp_arith! [at4_5, bx])
            refine ih a (c.regs g) k4 (by omega) ?_
            (simp_arith! [])
            exact ⟨(fun n hn => nomatch hn), fin2 _ eG _ _ _ _ _⟩
          · rename_i hc
            rw [if_neg hc] at eG
            (simp_arith! [at4_5, bx])
            refine ih b (c.regs g) k5 (by omega) ?_
            (simp_arith! [])
            exact ⟨(fun n hn => nomatch hn), fin2 _ eG _ _ _ _ _⟩
    · rintro e' S' ⟨es, ts, T, p, x4, x5, x6, x7, x8, hr, ok, hn, g, eg, rfl, hp1, hb, rfl⟩
      cases es with
      | cons x es => cases hr
      | nil =>
        have eg : ts = goL sh ds rs := eg
        (simp_arith! [box_of hb])
        rw [eg]
        exact ⟨⟨T, rfl⟩, .inl ⟨bareL_ints _, q⟩⟩
theorem CV_behind {S : Sto} {many fuel s : Nat} {rs sh : List Int} {d : Dbt} {ds : List De} {Q : D → Sto → Prop} (c : Ctx many rs sh) (hp : 0 < sh.sum) (hs : d.deeds[s]? = some ds) (h : deOkL many ds) (hn : dnstL ds < fuel) (q : Q (.tup ((goL sh ds rs).map D.int)) S) : CV (c_behind fuel) [dbD d, .tup (rs.map D.int), .tup (sh.map D.int), .int s] S Q := by
  refine CV_plain rfl ?_
  unfold b_behind dbD
  have e1 : atI (d.deeds.map dsD) (s : Int) = some (.tup (deL ds)) := by rw [at_nat, List.getElem?_map, hs]; rfl
  (simp_arith! [at4_5, e1])
  exact CV_done hp fuel ds c h hn (RtP_same (bareL_ints _) q)
/-! bound -/
def absI (z : Int) : Int := if z < 0 then -z else z
def ends (d : Dbt) : List Int := (d.stakes.map fun e => [absI (sp e).1, absI (sp e).2]).flatten
def bnd (d : Dbt) : Int := if -((-(maxL (ends d))).fdiv (2 ^ d.scale)) > 1 then -((-(maxL (ends d))).fdiv (2 ^ d.scale)) else 1
theorem r_max1L {S : Sto} {ns : List Int} (h0 : 0 < ns.length) : gMax1 S (.lst (ns.map D.int)) = some (.int (maxL ns)) := by
  unfold gMax1
  rw [show listOf S (.lst (ns.map D.int)) = some (ns.map D.int) from rfl, Option.bind_some, intsOf_map, Option.bind_some, if_pos h0]
theorem ends_len (d : Dbt) : (ends d).length = 2 * d.stakes.length := by
  unfold ends
  induction d.stakes with
  | nil => rfl
  | cons e es ih => rw [List.map_cons, List.flatten_cons, List.length_append, ih]; simp; omega
theorem LV2_map {α : Type} {g : GX} {f1 : EX} {g1 : GX} {te : EX} {vs1 gs : List Nat} {S0 S : Sto} {e0 : En} (g0 : α → D) (f : α → List D) (hg : ∀ n, n ∈ gs → S[n]? = S0[n]?) : ∀ {xs : List α},
    (∀ a (K : List D → Sto → Prop), a ∈ xs → K (f a) S → GV g (g0 a) e0 S fun e1 S1 => EV f1 e1 S1 fun x S2 => ∃ ds1, x = .tup ds1 ∧ LV g1 tYes' te [] [] (wipeE e1 vs1) ds1 S2 K) →
    LV2 g f1 g1 te vs1 gs S0 e0 (xs.map g0) S fun out S' => out = (xs.map f).flatten ∧ S' = S
  | [], _ => LV2_nil.mpr ⟨rfl, rfl⟩
  | d :: ds, step => by
    refine LV2_cons.mpr ?_
    obtain ⟨e1, S1, h1, x, S2, h2, ds1, hx, u, S3, h3, hu, hi⟩ := step d (fun y T => y = f d ∧ T = S) (List.mem_cons_self ..) ⟨rfl, rfl⟩
    subst hi hu
    refine ⟨e1, S1, h1, x, S2, h2, ds1, hx, _, _, h3, hg, ?_⟩
    obtain ⟨r, S4, h4, q1, q2⟩ := LV2_map g0 f hg fun d K hd => step d K (List.mem_cons_of_mem _ hd)
    exact ⟨r, S4, h4, by rw [q1]; rfl, q2⟩
theorem LV2.imp' {g : GX} {f1 : EX} {g1 : GX} {te : EX} {vs1 gs : List Nat} {S0 S : Sto} {e0 : En} {ds : List D} {Q R : List D → Sto → Prop} (h : LV2 g f1 g1 te vs1 gs S0 e0 ds S Q) (k : ∀ d S1, Q d S1 → R d S1) : LV2 g f1 g1 te vs1 gs S0 e0 ds S R := by obtain ⟨v, S', h1, q⟩ := h; exact ⟨v, S', h1, k _ _ q⟩
theorem CV_bound {S : Sto} {many n : Nat} {d : Dbt} {Q : D → Sto → Prop} (hs : d.scale < 5) (hl : 0 < d.stakes.length) (hl2 : d.stakes.length ≤ 1000) (h : ∀ e, e ∈ d.stakes → exOk many e ∧ lev e < n ∧ lev e ≤ 20) (q : Q (.int (bnd d)) S) : CV (c_bound n) [dbD d] S Q := by
  have hp := pw_sc hs
  refine CV_plain rfl ?_
  unfold b_bound dbD
  (simp_arith! [AV_lc2])
  refine (LV2_map exD (fun e => [.int (absI (sp e).1), .int (absI (sp e).2)]) (fun n _ => rfl) fun e K he hK => ?_).imp' fun out S2 q2 => ?_
  · obtain ⟨h1, h2, h3⟩ := h e he
    (simp_arith! [])
    refine CV_span e h1 h2 h3 ?_
    unfold spnD
    (simp_arith! [])
    refine LV_cons.mpr ?_
    (simp_arith! [])
    refine LV_cons.mpr ?_
    (simp_arith! [])
    exact LV_nil.mpr hK
  obtain ⟨rfl, rfl⟩ := q2
  have e1 : (d.stakes.map fun e => [D.int (absI (sp e).1), D.int (absI (sp e).2)]).flatten = (ends d).map D.int := by
    unfold ends
    induction d.stakes with
    | nil => rfl
    | cons e es ih => rw [List.map_cons, List.flatten_cons, ih, List.map_cons, List.flatten_cons, List.map_append]; rfl
  rw [e1]
  have el := ends_len d
  refine ⟨sz_le (by rw [List.length_map]; omega), ?_⟩
  (simp_arith! [r_max1L (show 0 < (ends d).length by omega), sc_at hs])
  exact ⟨sm_div (sm_k (by omega)) (by omega), RtP_same rfl q⟩
end Pv
set_option Elab.async false
set_option linter.all false
set_option maxRecDepth 100000
set_option maxHeartbeats 0
namespace Pv
open PySem PySem.Spec PyProof.Rows L2
/-! where words met; the laws' own borders -/
noncomputable def b_lcounted (k : Con) : SX := sSeq (sAsg (e2 fIx (eVar 0) (eC (.int 0))) (gN 1)) (sSeq (sIf (tOf (e2 fIn (eVar 1) (eTup (aCons (eC (.str "fig")) (aCons (eC (.str "reg")) (aCons (eC (.str "share")) (aNil))))))) (sRet (eTup (aCons (eC (.int 1)) (aCons (eC (.int 0)) (aNil))))) (sNil)) (sSeq (sIf (tOf (e2 fIn (eVar 1) (eTup (aCons (eC (.str "times")) (aCons (eC (.str "by")) (aNil)))))) (sRet (eCall k (aCons (e2 fIx (eVar 0) (eC (.int 2))) (aNil)))) (sNil)) (sSeq (sPar 3 4 (aCons (eCall k (aCons (e2 fIx (eVar 0) (e1 fNeg (eC (.int 2)))) (aNil))) (aCons (eCall k (aCons (e2 fIx (eVar 0) (e1 fNeg (eC (.int 1)))) (aNil))) (aNil)))) (sSeq (sIf (tOf (e2 fIn (eVar 1) (eTup (aCons (eC (.str "sum")) (aCons (eC (.str "less")) (aNil)))))) (sRet (eTup (aCons (e2 fMul (e2 fIx (eVar 3) (eC (.int 0))) (e2 fIx (eVar 4) (eC (.int 0)))) (aCons (e2 fAdd (e2 fIx (eVar 3) (eC (.int 1))) (e2 fIx (eVar 4) (eC (.int 1)))) (aNil))))) (sNil)) (sSeq (sIf (tOf (e2 fEq (eVar 1) (eC (.str "when")))) (sRet (eTup (aCons (eCB (fn2 gMax2) (aCons (e2 fIx (eVar 3) (eC (.int 0))) (aCons (e2 fIx (eVar 4) (eC (.int 0))) (aNil)))) (aCons (eCB (fn2 gMax2) (aCons (e2 fIx (eVar 3) (eC (.int 1))) (aCons (e2 fIx (eVar 4) (eC (.int 1))) (aNil)))) (aNil))))) (sNil)) (sSeq (sAsg (eIf (tOf (e2 fEq (eVar 1) (eC (.str "where")))) (eC (.int 1)) (e2 fMul (e2 fIx (eVar 3) (eC (.int 0))) (e2 fIx (eVar 4) (eC (.int 0))))) (gN 2)) (sRet (eTup (aCons (e2 fAdd (e2 fIx (eVar 3) (eC (.int 0))) (e2 fIx (eVar 4) (eC (.int 0)))) (aCons (e2 fAdd (e2 fAdd (e2 fIx (eVar 3) (eC (.int 1))) (e2 fIx (eVar 4) (eC (.int 1)))) (eVar 2)) (aNil)))))))))))
noncomputable def cc_lcounted : Nat → Con
  | 0 => fun _ _ => none
  | n + 1 => den 1 5 0 (b_lcounted (cc_lcounted n))
noncomputable def b_llines (k : Con) : SX := sRet (eCB (fn1 gSum) (aCons (eFz (lLc (iSeq (e2 fIx (eVar 0) (eC (.int 3)))) (gN 1) (tYes') (e2 fIx (eCall k (aCons (eVar 1) (aNil))) (eC (.int 1))) [1])) (aNil)))
noncomputable def c_llines (n : Nat) : Con := den 1 2 0 (b_llines (cc_lcounted n))
theorem CV_lcounted : ∀ (e : Xp) {n : Nat} {S : Sto} {Q : D → Sto → Prop}, lev e < n → lev e ≤ 10 → Q (ctD e) S → CV (cc_lcounted n) [exD e] S Q := by
  intro e
  induction e with
  | fig m =>
    intro n S Q hl hl2 q
    cases n with
    | zero => omega
    | succ n =>
      refine CV_plain rfl ?_
      unfold b_lcounted exD
      (simp_arith! [])
      repeat (first | exact RtP_same rfl q | refine ⟨rfl, ?_⟩)
  | reg i =>
    intro n S Q hl hl2 q
    cases n with
    | zero => omega
    | succ n =>
      refine CV_plain rfl ?_
      unfold b_lcounted exD
      (simp_arith! [])
      repeat (first | exact RtP_same rfl q | refine ⟨rfl, ?_⟩)
  | shr i =>
    intro n S Q hl hl2 q
    cases n with
    | zero => omega
    | succ n =>
      refine CV_plain rfl ?_
      unfold b_lcounted exD
      (simp_arith! [])
      repeat (first | exact RtP_same rfl q | refine ⟨rfl, ?_⟩)
  | tim m a ih =>
    intro n S Q hl hl2 q
    cases n with
    | zero => omega
    | succ n =>
      refine CV_plain rfl ?_
      unfold b_lcounted exD
      have l1 : lev a + 1 < n + 1 := hl
      have l2 : lev a + 1 ≤ 10 := hl2
      (simp_arith! [])
      exact ih (by omega) (by omega) (RtP_same rfl q)
  | byr m a ih =>
    intro n S Q hl hl2 q
    cases n with
    | zero => omega
    | succ n =>
      refine CV_plain rfl ?_
      unfold b_lcounted exD
      have l1 : lev a + 1 < n + 1 := hl
      have l2 : lev a + 1 ≤ 10 := hl2
      (simp_arith! [])
      exact ih (by omega) (by omega) (RtP_same rfl q)
  | whn i f a b iha ihb =>
    intro n S Q hl hl2 q
    cases n with
    | zero => omega
    | succ n =>
      refine CV_plain rfl ?_
      unfold b_lcounted exD
      have l1 : max (lev a) (lev b) + 1 < n + 1 := hl
      have l2 : max (lev a) (lev b) + 1 ≤ 10 := hl2
      obtain ⟨s1, s2⟩ := ct_sm (e := a) (by omega)
      obtain ⟨s3, s4⟩ := ct_sm (e := b) (by omega)
      (simp_arith! [])
      refine iha (by omega) (by omega) (ihb (by omega) (by omega) ?_)
      unfold ctD
      (simp_arith! [])
      repeat (first | exact RtP_same rfl q | refine ⟨sm_mul s1 s3, ?_⟩)
  | whr i f a b iha ihb =>
    intro n S Q hl hl2 q
    cases n with
    | zero => omega
    | succ n =>
      refine CV_plain rfl ?_
      unfold b_lcounted exD
      have l1 : max (lev a) (lev b) + 1 < n + 1 := hl
      have l2 : max (lev a) (lev b) + 1 ≤ 10 := hl2
      obtain ⟨s1, s2⟩ := ct_sm (e := a) (by omega)
      obtain ⟨s3, s4⟩ := ct_sm (e := b) (by omega)
      (simp_arith! [])
      refine iha (by omega) (by omega) (ihb (by omega) (by omega) ?_)
      unfold ctD
      (simp_arith! [])
      repeat (first | exact RtP_same rfl q | refine ⟨sm_mul s1 s3, ?_⟩)
  | sum a b iha ihb =>
    intro n S Q hl hl2 q
    cases n with
    | zero => omega
    | succ n =>
      refine CV_plain rfl ?_
      unfold b_lcounted exD
      have l1 : max (lev a) (lev b) + 1 < n + 1 := hl
      have l2 : max (lev a) (lev b) + 1 ≤ 10 := hl2
      obtain ⟨s1, s2⟩ := ct_sm (e := a) (by omega)
      obtain ⟨s3, s4⟩ := ct_sm (e := b) (by omega)
      (simp_arith! [])
      refine iha (by omega) (by omega) (ihb (by omega) (by omega) ?_)
      unfold ctD
      (simp_arith! [])
      repeat (first | exact RtP_same rfl q | refine ⟨sm_mul s1 s3, ?_⟩)
  | les a b iha ihb =>
    intro n S Q hl hl2 q
    cases n with
    | zero => omega
    | succ n =>
      refine CV_plain rfl ?_
      unfold b_lcounted exD
      have l1 : max (lev a) (lev b) + 1 < n + 1 := hl
      have l2 : max (lev a) (lev b) + 1 ≤ 10 := hl2
      obtain ⟨s1, s2⟩ := ct_sm (e := a) (by omega)
      obtain ⟨s3, s4⟩ := ct_sm (e := b) (by omega)
      (simp_arith! [])
      refine iha (by omega) (by omega) (ihb (by omega) (by omega) ?_)
      unfold ctD
      (simp_arith! [])
      repeat (first | exact RtP_same rfl q | refine ⟨sm_mul s1 s3, ?_⟩)
  | lst a b iha ihb =>
    intro n S Q hl hl2 q
    cases n with
    | zero => omega
    | succ n =>
      refine CV_plain rfl ?_
      unfold b_lcounted exD
      have l1 : max (lev a) (lev b) + 1 < n + 1 := hl
      have l2 : max (lev a) (lev b) + 1 ≤ 10 := hl2
      obtain ⟨s1, s2⟩ := ct_sm (e := a) (by omega)
      obtain ⟨s3, s4⟩ := ct_sm (e := b) (by omega)
      (simp_arith! [])
      refine iha (by omega) (by omega) (ihb (by omega) (by omega) ?_)
      unfold ctD
      (simp_arith! [])
      repeat (first | exact RtP_same rfl q | refine ⟨sm_mul s1 s3, ?_⟩)
  | mst a b iha ihb =>
    intro n S Q hl hl2 q
    cases n with
    | zero => omega
    | succ n =>
      refine CV_plain rfl ?_
      unfold b_lcounted exD
      have l1 : max (lev a) (lev b) + 1 < n + 1 := hl
      have l2 : max (lev a) (lev b) + 1 ≤ 10 := hl2
      obtain ⟨s1, s2⟩ := ct_sm (e := a) (by omega)
      obtain ⟨s3, s4⟩ := ct_sm (e := b) (by omega)
      (simp_arith! [])
      refine iha (by omega) (by omega) (ihb (by omega) (by omega) ?_)
      unfold ctD
      (simp_arith! [])
      repeat (first | exact RtP_same rfl q | refine ⟨sm_mul s1 s3, ?_⟩)
theorem CV_llines {S : Sto} {n : Nat} {d : Dbt} {Q : D → Sto → Prop} (hl : d.stakes.length ≤ 1000) (h : ∀ e, e ∈ d.stakes → lev e < n ∧ lev e ≤ 10) (q : Q (.int ((d.stakes.map fun e => (ct e).2).sum)) S) : CV (c_llines n) [dbD d] S Q := by
  refine CV_plain rfl ?_
  unfold b_llines dbD
  (simp_arith! [])
  refine (LV_mapG exD (fun e => .int (ct e).2) (fun n _ => rfl) fun e K he hK => ?_).imp fun out S2 q2 => ?_
  · obtain ⟨h1, h2⟩ := h e he
    (simp_arith! [])
    refine CV_lcounted e h1 h2 ?_
    unfold ctD
    (simp_arith! [])
    exact hK
  obtain ⟨rfl, rfl⟩ := q2
  refine ⟨sz_le (by rw [List.length_map]; omega), ?_⟩
  have e1 : (d.stakes.map fun e => D.int (ct e).2) = (d.stakes.map fun e => (ct e).2).map D.int := by rw [List.map_map]; rfl
  rw [e1]
  (simp_arith! [])
  exact RtP_same rfl q
abbrev Wm := Xp × Bool
def pmD (p : Wm) : D := .tup [exD p.1, .bl p.2]
def kid0 : Xp → List Xp
  | .fig _ => []
  | .reg _ => []
  | .shr _ => []
  | .tim _ a => [a]
  | .byr _ a => [a]
  | .whn _ _ a b => [a, b]
  | .whr _ _ a b => [a, b]
  | .sum a b => [a, b]
  | .les a b => [a, b]
  | .lst a b => [a, b]
  | .mst a b => [a, b]
def kidW (rs : List Int) (x : Xp) (m : Bool) : List Wm := match x with
  | .whn i f a b => [(a, m && decide (rs.getD i 0 < f)), (b, m && !decide (rs.getD i 0 < f))]
  | x => (kid0 x).map fun a => (a, m)
def selfW (x : Xp) (m : Bool) : List Wm := match x with
  | .whr i f a b => [(.whr i f a b, m)]
  | _ => []
/-- all where words as they stand, with whether they are met -/
def wmT (rs : List Int) : Xp → Bool → List Wm
  | .fig _, _ => []
  | .reg _, _ => []
  | .shr _, _ => []
  | .tim _ a, m => wmT rs a m
  | .byr _ a, m => wmT rs a m
  | .whn i f a b, m => wmT rs a (m && decide (rs.getD i 0 < f)) ++ wmT rs b (m && !decide (rs.getD i 0 < f))
  | .whr i f a b, m => (.whr i f a b, m) :: (wmT rs a m ++ wmT rs b m)
  | .sum a b, m => wmT rs a m ++ wmT rs b m
  | .les a b, m => wmT rs a m ++ wmT rs b m
  | .lst a b, m => wmT rs a m ++ wmT rs b m
  | .mst a b, m => wmT rs a m ++ wmT rs b m
def wmS (rs : List Int) (st : List Wm) : List Wm := (st.map fun p => wmT rs p.1 p.2).flatten
theorem wmT_eq (rs : List Int) (x : Xp) (m : Bool) : wmT rs x m = selfW x m ++ wmS rs (kidW rs x m) := by
  cases x <;> simp [wmT, selfW, wmS, kidW, kid0]
def szW (st : List Wm) : Nat := (st.map fun p => szX p.1).sum
theorem szW_app (a b : List Wm) : szW (a ++ b) = szW a + szW b := by unfold szW; rw [List.map_append, List.sum_append]
theorem szW_rev (a : List Wm) : szW a.reverse = szW a := by unfold szW; rw [List.map_reverse, List.sum_reverse]
theorem szX_kid (rs : List Int) (x : Xp) (m : Bool) : szW (kidW rs x m) + 1 = szX x := by cases x <;> simp [szW, kidW, kid0, szX, xy, siz] <;> omega
theorem szX_pos (x : Xp) : 1 ≤ szX x := by cases x <;> simp [szX, xy, siz] <;> omega
theorem szW_len : ∀ st : List Wm, st.length ≤ szW st
  | [] => Nat.le_refl _
  | p :: st => by
    have h1 := szW_len st
    have h2 := szX_pos p.1
    show st.length + 1 ≤ szX p.1 + szW st
    omega
theorem wmS_app (rs : List Int) (a b : List Wm) : wmS rs (a ++ b) = wmS rs a ++ wmS rs b := by unfold wmS; rw [List.map_append, List.flatten_append]
theorem selfW_len (x : Xp) (m : Bool) : (selfW x m).length ≤ 1 := by cases x <;> simp [selfW]
theorem filter_tail (x : Xp) : (tailD x).filter isTup = (kid0 x).map exD := by
  have it : ∀ a : Xp, isTup (exD a) = true := fun a => by rw [ex_eq]; rfl
  have ii : ∀ z : Int, isTup (.int z) = false := fun z => rfl
  cases x <;> simp [tailD, kid0, ii, it]
theorem kidW_ok {many : Nat} {rs : List Int} {x : Xp} {m : Bool} {l : Nat} (h : exOk many x) (hl : lev x ≤ l) : ∀ p, p ∈ kidW rs x m → exOk many p.1 ∧ lev p.1 ≤ l := by
  intro p hp
  cases x <;> simp [kidW, kid0] at hp
  all_goals simp only [lev] at hl
  case tim => subst hp; exact ⟨h.2.2, by simp only; omega⟩
  case byr => subst hp; exact ⟨h.2, by simp only; omega⟩
  case whn => rcases hp with rfl | rfl; exact ⟨h.2.2.2.1, by simp only; omega⟩; exact ⟨h.2.2.2.2, by simp only; omega⟩
  case whr => rcases hp with rfl | rfl; exact ⟨h.2.2.2.1, by simp only; omega⟩; exact ⟨h.2.2.2.2, by simp only; omega⟩
  all_goals (rcases hp with rfl | rfl; exact ⟨h.1, by simp only; omega⟩; exact ⟨h.2, by simp only; omega⟩)
theorem stW_data {many : Nat} (hm : many ≤ 1000) : ∀ {st : List Wm}, (∀ p, p ∈ st → exOk many p.1 ∧ lev p.1 ≤ 20) → shortL 13 (st.map pmD) = true ∧ depL (st.map pmD) ≤ 60
  | [], _ => ⟨rfl, Nat.zero_le _⟩
  | p :: st, h => by
    obtain ⟨i1, i2⟩ := stW_data hm fun q hq => h q (List.mem_cons_of_mem _ hq)
    obtain ⟨k1, k2⟩ := h p (List.mem_cons_self ..)
    obtain ⟨d1, d2, d3⟩ := ex_data hm p.1 k1
    refine ⟨?_, ?_⟩
    · show (shortB 13 (pmD p) && shortL 13 (st.map pmD)) = true
      rw [i1]
      simp [pmD, shortB, shortL, d1]
    · show max (dep (pmD p)) (depL (st.map pmD)) ≤ 60
      have : dep (pmD p) ≤ 60 := by simp [pmD, dep, depL]; omega
      omega
theorem pop_lastW {S : Sto} {st : List Wm} {p : Wm} : hPop S ((st ++ [p]).map pmD) [] = some (pmD p, st.map pmD) := by
  show ((((st ++ [p]).map pmD)[((st ++ [p]).map pmD).length - 1]?).map fun d => (d, ((st ++ [p]).map pmD).dropLast)) = _
  rw [List.map_append]
  simp
theorem pm_bare (st : List Wm) : bareL (st.map pmD) = true := bareL_iff.mpr fun d hd => by
  obtain ⟨p, _, rfl⟩ := List.mem_map.mp hd
  show (bare (exD p.1) && (true && true)) = true
  rw [exD_bare]; rfl
theorem wd_where (x : Xp) : (wordOf x = "where" ∧ (∃ i f a b, x = .whr i f a b)) ∨ (wordOf x ≠ "where" ∧ ∀ m, selfW x m = []) := by
  cases x <;> first | exact .inl ⟨rfl, _, _, _, _, rfl⟩ | exact .inr ⟨by simp [wordOf, Wd], fun m => rfl⟩
theorem wd_when (x : Xp) : (∃ i f a b, x = .whn i f a b) ∨ (wordOf x ≠ "when" ∧ ∀ rs m, kidW rs x m = (kid0 x).map fun a => (a, m)) := by
  cases x <;> first | exact .inl ⟨_, _, _, _, rfl⟩ | exact .inr ⟨by simp [wordOf, Wd], fun rs m => rfl⟩
end Pv
set_option Elab.async false
set_option linter.all false
set_option maxRecDepth 100000
set_option maxHeartbeats 0
namespace Pv
open PySem PySem.Spec PyProof.Rows L2
/-! words_met, jump, is_even, is_still where no where word stands -/
theorem set_2nd {S : Sto} {a b c : Ob} : (S ++ [a, b]).set (S.length + 1) c = S ++ [a, c] := by
  rw [List.set_append_right _ _ (by omega)]
  rw [show S.length + 1 - S.length = 1 by omega]
  rfl
theorem set_1st {S : Sto} {a b c : Ob} : (S ++ [a, b]).set S.length c = S ++ [c, b] := by
  rw [List.set_append_right _ _ (by omega), Nat.sub_self]
  rfl
theorem box_2nd {S : Sto} {a : Ob} {ds : List D} : boxAt (S ++ [a, .lst ds]) (S.length + 1) = some ds := box_of (by simp)
theorem box_1st {S : Sto} {b : Ob} {ds : List D} : boxAt (S ++ [.lst ds, b]) S.length = some ds := box_of (by simp)
theorem app_two {S : Sto} {a b : Ob} : S ++ [a] ++ [b] = S ++ [a, b] := by simp
theorem len_app1 {S : Sto} {a : Ob} : (S ++ [a]).length = S.length + 1 := by simp
theorem CV_wordsmet {S : Sto} {many : Nat} {rs : List Int} {e : Xp} {Q : D → Sto → Prop} (hm : many ≤ 1000) (hr : rs.length = 4) (h : exOk many e) (hl : lev e ≤ 20) (hz : szX e ≤ 100000) (q : Q (.lst ((wmT rs e true).map pmD)) S) : CV c_words_met [exD e, .tup (rs.map D.int)] S Q := by
  refine CV_plain rfl ?_
  unfold b_words_met
  (simp_arith! [app_two, len_app1])
  refine SV_whileI (fun n e' S' => ∃ (st os : List Wm) (x4 x5 x6 x7 x8 : Option D), n = szW st ∧ (∀ p, p ∈ st → exOk many p.1 ∧ lev p.1 ≤ 20) ∧ os.length + szW st ≤ 100000 ∧ os ++ wmS rs st.reverse = wmT rs e true ∧ e' = [some (exD e), some (.tup (rs.map D.int)), some (.ref S.length), some (.ref (S.length + 1)), x4, x5, x6, x7, x8] ∧ S' = S ++ [.lst (os.map pmD), .lst (st.map pmD)]) (szX e) ⟨[(e, true)], [], none, none, none, none, none, rfl, fun p hp => ?_, (by show 0 + (szX e + 0) ≤ 100000; omega), (by simp [wmS]), rfl, rfl⟩ ?_
  · rw [List.mem_singleton.mp hp]
    exact ⟨h, hl⟩
  · rintro n e' S' K ⟨st, os, x4, x5, x6, x7, x8, rfl, f1, f3, f4, rfl, rfl⟩ hK
    obtain ⟨d1, d2⟩ := stW_data hm f1
    (simp_arith! [r_ne_box 13 box_2nd d1 d2])
    rcases List.eq_nil_or_concat st with rfl | ⟨st', p, rfl⟩
    · (simp_arith! [List.map_nil, List.isEmpty_nil, Bool.not_true])
      have f4 : os ++ [] = wmT rs e true := f4
      rw [List.append_nil] at f4
      rw [f4]
      exact ⟨⟨_, rfl⟩, .inr ⟨_, _, rfl, Nat.le_refl _, by simp, pm_bare _, q⟩⟩
    · obtain ⟨x, m⟩ := p
      rw [List.concat_eq_append] at *
      obtain ⟨ok, lx⟩ := f1 (x, m) (by simp)
      have hne : ((st' ++ [(x, m)]).map pmD).isEmpty = false := by rw [List.map_append]; cases st' <;> rfl
      have hp := @pop_lastW (S ++ [.lst (os.map pmD), .lst ((st' ++ [(x, m)]).map pmD)]) st' (x, m)
      have eb : boxAt (S ++ [.lst (os.map pmD), .lst ((st' ++ [(x, m)]).map pmD)]) (S.length + 1) = some ((st' ++ [(x, m)]).map pmD) := box_2nd
      have hs := szW_app st' [(x, m)]
      have hs1 : szW [(x, m)] = szX x := rfl
      have hs2 := szW_len st'
      have hk := szX_kid rs x m
      have hk2 := szW_len (kidW rs x m)
      have hs4 := selfW_len x m
      have hs5 := szX_pos x
      have es : pmD (x, m) = .tup [exD x, .bl m] := rfl
      have tl : ∀ S0 : Sto, LV (gN 8) (tOf (e1 (gIs "tuple") (eVar 8))) (eTup (aCons (eVar 8) (aCons (eVar 6) aNil))) [] S0 [some (exD e), some (.tup (rs.map D.int)), some (.ref S.length), some (.ref (S.length + 1)), x4, some (exD x), some (.bl m), x7, none] (tailD x) S0 fun out S2 => out = ((kid0 x).map fun a => (a, m)).map pmD ∧ S2 = S0 := by
        intro S0
        refine (LV_filter isTup (fun d => .tup [d, .bl m]) (fun n _ => rfl) fun d K L hd hK hL => ?_).imp fun out S2 q2 => ?_
        · rcases (tail_kids x ok).1 d hd with ⟨z, rfl⟩ | ⟨a, rfl, _⟩
          · (simp_arith! [])
            exact ⟨rfl, hL⟩
          · have it : isTup (exD a) = true := by rw [ex_eq]; rfl
            (simp_arith! [isT_ex, it])
            exact hK
        · obtain ⟨rfl, rfl⟩ := q2
          refine ⟨?_, rfl⟩
          rw [filter_tail, List.map_map, List.map_map]
          rfl
      have fin : ∀ (os2 : List Wm) (y4 y5 y6 y7 y8 : Option D), os2 = os ++ selfW x m → K [some (exD e), some (.tup (rs.map D.int)), some (.ref S.length), some (.ref (S.length + 1)), y4, y5, y6, y7, y8] (S ++ [.lst (os2.map pmD), .lst (st'.map pmD ++ (((kidW rs x m).map pmD).reverse))]) := by
        intro os2 y4 y5 y6 y7 y8 e2
        subst e2
        refine hK (szW (st' ++ (kidW rs x m).reverse)) _ _ ?_ ⟨st' ++ (kidW rs x m).reverse, os ++ selfW x m, _, _, _, _, _, rfl, fun p hp => ?_, ?_, ?_, rfl, ?_⟩
        · rw [szW_app, szW_rev]; omega
        · rcases List.mem_append.mp hp with hp | hp
          · exact f1 p (List.mem_append_left _ hp)
          · exact kidW_ok ok lx p (List.mem_reverse.mp hp)
        · rw [szW_app, szW_rev, List.length_append]; omega
        · rw [← f4, List.reverse_append, List.reverse_append, List.reverse_reverse, wmS_app, wmS_app, List.append_assoc]
          congr 1
          rw [← List.append_assoc, ← wmT_eq]
          simp [wmS]
        · simp only [List.map_append, List.map_reverse]
      have sz3 : szOk ((((kid0 x).map fun a => (a, m)).map pmD).length) = true := sz_le (by rw [List.length_map, List.length_map]; cases x <;> simp [kid0])
      (simp_arith! [hne, Bool.not_false, eb, hp, Prod.mk.injEq, es, set_2nd, ex_0, ex_tail])
      have T : (∃ os2 : List Wm, os2 = os ++ selfW x m ∧ os2.length ≤ 100001) := ⟨_, rfl, by rw [List.length_append]; omega⟩
      obtain ⟨os2, eo, lo⟩ := T
      have fin := fin os2
      rcases wd_where x with ⟨e1, i, f, a, b, rfl⟩ | ⟨e1, hself⟩
      · rw [if_pos e1]
        refine ⟨_, box_1st, ex_append.mpr ⟨sz_le (by rw [List.length_map]; omega), ?_⟩⟩
        rw [set_1st]
        have e3 : os.map pmD ++ [.tup [exD (.whr i f a b), .bl m]] = os2.map pmD := by rw [eo, List.map_append]; rfl
        rw [e3]
        refine (tl _).imp fun out S2 q2 => ?_
        obtain ⟨rfl, rfl⟩ := q2
        refine ⟨sz3, ?_⟩
        rw [if_neg (by simp [wordOf, Wd])]
        refine ⟨_, rfl, _, box_2nd, ex_extend.mpr ⟨sz_le (by rw [List.length_reverse, List.length_map, List.length_map, List.length_map]; simp [kid0]; omega), ?_⟩⟩
        rw [set_2nd]
        exact ⟨(fun n hn => nomatch hn), fin _ _ _ _ _ eo⟩
      · rw [if_neg e1]
        have e3 : os = os2 := by rw [eo, hself, List.append_nil]
        rw [e3]
        refine (tl _).imp fun out S2 q2 => ?_
        obtain ⟨rfl, rfl⟩ := q2
        refine ⟨sz3, ?_⟩
        rcases wd_when x with ⟨i, f, a, b, rfl⟩ | ⟨e4, hkid⟩
        · have ri : i < 4 := ok.1
          have e5 : atI (rs.map D.int) (i : Int) = some (.int (rs.getD i 0)) := getD_at (by rw [hr]; exact ri)
          have e6 : exD (.whn i f a b) = .tup [.str "when", .int i, .int f, exD a, exD b] := rfl
          have e7 : wordOf (.whn i f a b) = "when" := rfl
          rw [if_pos e7]
          have lL : ∀ {T : Sto} {ds : List D}, listOf T (.lst ds) = some ds := rfl
          have lk : (kidW rs (.whn i f a b) m).map pmD = [.tup [exD a, .bl (m && decide (rs.getD i 0 < f))], .tup [exD b, .bl (m && !decide (rs.getD i 0 < f))]] := rfl
          rw [lk] at fin
          have sz2 : szOk ((st'.map pmD).length + ([D.tup [exD a, D.bl false], D.tup [exD b, D.bl false]] : List D).length) = true := sz_le (by rw [List.length_map]; simp; omega)
          cases m with
          | true =>
            (simp_arith! [e6, e5, at4_5, box_2nd, lL])
            refine ex_extend.mpr ⟨sz2, ?_⟩
            rw [set_2nd]
            exact ⟨(fun n hn => nomatch hn), fin _ _ _ _ _ eo⟩
          | false =>
            (simp_arith! [e6, e5, at4_5, box_2nd, lL])
            refine ex_extend.mpr ⟨sz2, ?_⟩
            rw [set_2nd]
            exact ⟨(fun n hn => nomatch hn), fin _ _ _ _ _ eo⟩
        · rw [if_neg e4]
          rw [hkid] at fin
          refine ⟨_, rfl, _, box_2nd, ex_extend.mpr ⟨sz_le (by rw [List.length_reverse, List.length_map, List.length_map, List.length_map]; have : (kid0 x).length ≤ 2 := (by cases x <;> simp [kid0]); omega), ?_⟩⟩
          rw [set_2nd]
          exact ⟨(fun n hn => nomatch hn), fin _ _ _ _ _ eo⟩
theorem isN_non : isNon .non = true := rfl
theorem CV_jump0 {S : Sto} {many : Nat} {rs : List Int} {e : Xp} {k : Con} {Q : D → Sto → Prop} (hm : many ≤ 1000) (hr : rs.length = 4) (h : exOk many e) (hl : lev e ≤ 20) (hz : szX e ≤ 100000) (hw : wmT rs e true = []) (q : Q .non S) : CV (c_jump k) [exD e, .tup (rs.map D.int), .int many] S Q := by
  refine CV_plain rfl ?_
  unfold b_jump
  (simp_arith! [])
  refine CV_wordsmet hm hr h hl hz ?_
  rw [hw]
  have e0 : enumD [] = [] := rfl
  (simp_arith! [e0, SV_for_nil])
  exact RtP_same rfl q
theorem CV_even0 {S : Sto} {many : Nat} {rs : List Int} {e : Xp} {k : Con} {Q : D → Sto → Prop} (hm : many ≤ 1000) (hr : rs.length = 4) (h : exOk many e) (hl : lev e ≤ 20) (hz : szX e ≤ 100000) (hw : wmT rs e true = []) (q : Q (.bl true) S) : CV (c_is_even k) [exD e, .tup (rs.map D.int), .int many] S Q := by
  refine CV_plain rfl ?_
  unfold b_is_even
  (simp_arith! [])
  refine CV_jump0 hm hr h hl hz hw ?_
  (simp_arith! [isN_non])
  exact RtP_same rfl q
theorem CV_still0 {S : Sto} {many : Nat} {rs : List Int} {d : Dbt} {k : Con} {Q : D → Sto → Prop} (hm : many ≤ 1000) (hr : rs.length = 4) (hl : d.stakes.length = many) (h : ∀ e, e ∈ d.stakes → exOk many e ∧ lev e ≤ 20 ∧ szX e ≤ 100000 ∧ wmT rs e true = []) (q : Q (.bl true) S) : CV (c_is_still k) [dbD d, .tup (rs.map D.int)] S Q := by
  refine CV_plain rfl ?_
  unfold b_is_still dbD
  (simp_arith! [List.length_map])
  refine (LV_mapG exD (fun _ => .bl true) (fun n _ => rfl) fun e K he hK => ?_).imp fun out S2 q2 => ?_
  · obtain ⟨h1, h2, h3, h4⟩ := h e he
    (simp_arith! [List.length_map, hl])
    exact CV_even0 hm hr h1 h2 h3 h4 hK
  obtain ⟨rfl, rfl⟩ := q2
  refine ⟨sz_le (by rw [List.length_map]; omega), ?_⟩
  (simp_arith! [r_all_true])
  exact RtP_same rfl q
end Pv
set_option Elab.async false
set_option linter.all false
set_option maxRecDepth 100000
set_option maxHeartbeats 0
namespace Pv
open PySem PySem.Spec PyProof.Rows L2
/-! the shelf: on_one, after -/
noncomputable def b_on_one : SX := sRet (eCB (fn1 gTuple) (aCons (eFz (lLc (iRg1 (eVar 0)) (gN 3) (tYes') (eIf (tOf (e2 fEq (eVar 3) (eVar 1))) (eVar 2) (eC (.tup [.str "fig", .int 0]))) [3])) (aNil)))
noncomputable def b_after (k_on_one : Con) : SX := sSeq (sAsg (eTup (aCons (eC (.str "when")) (aCons (eC (.int 0)) (aCons (eC (.int 1)) (aCons (eC (.tup [.str "fig", .int 0])) (aCons (eTup (aCons (eC (.str "fig")) (aCons (e2 fMul (eVar 3) (eC (.int 100))) (aNil)))) (aNil))))))) (gN 4)) (sSeq (sAsg (eCB (fn1 gTuple) (aCons (eFz (lLc (iRg1 (eVar 0)) (gN 6) (tYes') (eTup (aCons (eTup (aCons (eC (.str "put")) (aCons (eC (.int 0)) (aCons (eCB (fn1 gInt) (aCons (e2 fEq (eVar 6) (eVar 1)) (aNil))) (aNil))))) (aNil))) [6])) (aNil))) (gN 5)) (sRet (eTup (aCons (eC (.str "after")) (aCons (eC (.int 0)) (aCons (e2 fMul (eTup (aCons (eC (.int 0)) (aNil))) (eC (.int 4))) (aCons (eCall k_on_one (aCons (eVar 0) (aCons (eVar 2) (aCons (eVar 4) (aNil))))) (aCons (eVar 5) (aNil)))))))))
noncomputable def c_on_one : Con := den 3 4 0 b_on_one
noncomputable def c_after : Con := den 4 7 0 (b_after c_on_one)
theorem rg_nat {n : Nat} : rgD 0 (n : Int) = (List.range n).map fun i : Nat => D.int (i : Int) := by
  unfold rgD
  rw [show ((n : Int) - 0).toNat = n by omega]
  apply List.map_congr_left
  intro i _
  rw [Int.zero_add]
theorem natCast_eq {a b : Nat} : ((a : Int) = (b : Int)) = (a = b) := by
  apply propext
  omega
def onS (s : Nat) (x : Xp) (i : Nat) : Xp := if i = s then x else .fig 0
theorem CV_onone {S : Sto} {many s : Nat} {x : Xp} {Q : D → Sto → Prop} (hm : many ≤ 1000) (q : Q (.tup (((List.range many).map (onS s x)).map exD)) S) : CV c_on_one [.int many, .int s, exD x] S Q := by
  refine CV_plain rfl ?_
  unfold b_on_one
  (simp_arith! [])
  refine ⟨rg_ok (by omega) (by omega), ?_⟩
  rw [rg_nat]
  refine (LV_mapG (fun i : Nat => D.int (i : Int)) (fun i => exD (onS s x i)) (fun n _ => rfl) fun i K hi hK => ?_).imp fun out S2 q2 => ?_
  · (simp_arith! [natCast_eq])
    unfold onS at hK
    split
    · rename_i h; rw [if_pos h] at hK; exact hK
    · rename_i h; rw [if_neg h] at hK; exact hK
  obtain ⟨rfl, rfl⟩ := q2
  refine ⟨sz_le (by rw [List.length_map, List.length_range]; omega), ?_⟩
  (simp_arith! [])
  have e1 : ((List.range many).map fun i => exD (onS s x i)) = ((List.range many).map (onS s x)).map exD := by rw [List.map_map]; rfl
  rw [e1]
  exact RtP_same (exs_bare _) q
def aft (many s t : Nat) (side : Int) : Dbt := ⟨"after", 0, [0, 0, 0, 0], (List.range many).map (onS t (.whn 0 1 (.fig 0) (.fig (side * 100)))), (List.range many).map fun p => [.put 0 (if p = s then 1 else 0)]⟩
theorem rep04 : repOk 1 4 = true := by decide
theorem ifI_eq {p : Prop} [Decidable p] : (if decide p = true then (1 : Int) else 0) = if p then 1 else 0 := by simp
theorem CV_after {S : Sto} {many s t : Nat} {side : Int} {Q : D → Sto → Prop} (hm : many ≤ 1000) (hs : side = 1 ∨ side = -1) (q : Q (dbD (aft many s t side)) S) : CV c_after [.int many, .int s, .int t, .int side] S Q := by
  refine CV_plain rfl ?_
  unfold b_after
  have hb : side.natAbs ≤ 1 := by omega
  have e5 : ∀ u v w z y : D, szOk [u, v, w, z, y].length = true := fun _ _ _ _ _ => rfl
  (simp_arith! [])
  refine ⟨sm_mul (sm_k (by omega)) (sm_k (by decide)), rg_ok (by omega) (by omega), ?_⟩
  rw [rg_nat]
  refine (LV_mapG (fun i : Nat => D.int (i : Int)) (fun i => dsD [.put 0 (if i = s then 1 else 0)]) (fun n _ => rfl) fun i K hi hK => ?_).imp fun out S2 q2 => ?_
  · (simp_arith! [natCast_eq])
    exact hK
  obtain ⟨rfl, rfl⟩ := q2
  refine ⟨sz_le (by rw [List.length_map, List.length_range]; omega), ?_⟩
  (simp_arith! [r_mulT, rep04])
  refine CV_onone (x := .whn 0 1 (.fig 0) (.fig (side * 100))) hm ?_
  have e1 : ((List.range many).map fun i => dsD [.put 0 (if i = s then 1 else 0)]) = ((List.range many).map fun p => [De.put 0 (if p = s then 1 else 0)]).map dsD := by rw [List.map_map]; rfl
  rw [e1]
  (simp_arith! [])
  refine RtP_same ?_ q
  show (true && (true && (true && (bareL _ && (bareL _ && true))))) = true
  rw [exs_bare]
  have : bareL (((List.range many).map fun p => [De.put 0 (if p = s then 1 else 0)]).map dsD) = true := bareL_iff.mpr fun d hd => by
    obtain ⟨x, hx, rfl⟩ := List.mem_map.mp hd
    obtain ⟨i, hi, rfl⟩ := List.mem_map.mp hx
    rfl
  rw [this]
  rfl
/-- data of a doubter -/
theorem Dbt.dat {many l : Nat} {d : Dbt} (hm : many ≤ 3) (nm : shortB 13 (.str d.name) = true ∧ okD (.str d.name) = true) (sc : d.scale < 5) (rl : d.rs.length = 4) (rb : ∀ r, r ∈ d.rs → -1000 ≤ r ∧ r ≤ 1000) (sl : d.stakes.length = many) (st : ∀ e, e ∈ d.stakes → exOk many e ∧ lev e ≤ l) (dl : d.deeds.length = many) (de : ∀ x, x ∈ d.deeds → DatL 3 90 (deL x)) : Dat (l + 6) (3 * Cn l + 300) (dbD d) := by
  have s1 : Dat (l + 2) ((Cn l + 1) * 3) (.tup (d.stakes.map exD)) := by
    refine (DatL.all (dp := l + 1) (c := Cn l) fun x hx => ?_).tup.mono (Nat.le_refl _) (by rw [List.length_map, sl]; exact Nat.mul_le_mul_left _ hm)
    obtain ⟨e, he, rfl⟩ := List.mem_map.mp hx
    obtain ⟨h1, h2⟩ := st e he
    exact (Dat.ex (by omega) h1).mono (by omega) (Cn_mono h2)
  have s2 : Dat 5 (91 * 3) (.tup (d.deeds.map dsD)) := by
    refine (DatL.all (dp := 4) (c := 90) fun x hx => ?_).tup.mono (Nat.le_refl _) (by rw [List.length_map, dl]; exact Nat.mul_le_mul_left _ hm)
    obtain ⟨e, he, rfl⟩ := List.mem_map.mp hx
    exact (de e he).tup
  have s3 : Dat 1 8 (.tup (d.rs.map D.int)) := (Dat.ints fun n hn => by have := rb n hn; omega).mono (Nat.le_refl _) (by rw [rl]; exact Nat.le_refl _)
  exact ((DatL.cons ((Dat.word nm.1 nm.2).mono (Nat.zero_le _) (Nat.le_refl _)) (DatL.cons ((Dat.int (z := (d.scale : Int)) (by omega)).mono (Nat.zero_le _) (Nat.le_refl _)) (DatL.cons (s3.mono (show 1 ≤ l + 5 by omega) (Nat.le_refl _)) (DatL.cons (s1.mono (show l + 2 ≤ l + 5 by omega) (Nat.le_refl _)) (DatL.cons (s2.mono (by omega) (Nat.le_refl _)) DatL.nil))))).tup).mono (by omega) (by omega)
end Pv
set_option Elab.async false
set_option linter.all false
set_option maxRecDepth 100000
set_option maxHeartbeats 0
namespace Pv
open PySem PySem.Spec PyProof.Rows L2
/-! the shelf: tent, rival, lagging -/
noncomputable def b_by_registers : SX := sRet (eCB (fn1 gTuple) (aCons (eFz (lLc (iRg1 (eVar 0)) (gN 1) (tYes') (eTup (aCons (eC (.str "less")) (aCons (eTup (aCons (eC (.str "reg")) (aCons (eVar 1) (aNil)))) (aCons (eTup (aCons (eC (.str "share")) (aCons (eVar 1) (aNil)))) (aNil))))) [1])) (aNil)))
noncomputable def b_rival (k_by_registers : Con) : SX := sSeq (sAsg (e2 fAdd (eVar 1) (e2 fMul (eTup (aCons (eC (.int 0)) (aNil))) (e2 fSub (eC (.int 4)) (eVar 0)))) (gN 2)) (sRet (eTup (aCons (eC (.str "rival")) (aCons (eC (.int 4)) (aCons (eVar 2) (aCons (eCall k_by_registers (aCons (eVar 0) (aNil))) (aCons (e2 fMul (eTup (aCons (eTup (aNil)) (aNil))) (eVar 0)) (aNil))))))))
noncomputable def b_lagging (k_by_registers : Con) : SX := sSeq (sAsg (eCB (fn1 gTuple) (aCons (eFz (lLc (iRg1 (eVar 0)) (gN 2) (tYes') (eTup (aCons (eC (.str "told")) (aCons (eVar 2) (aCons (eVar 2) (aNil))))) [2])) (aNil))) (gN 1)) (sRet (eTup (aCons (eC (.str "lagging")) (aCons (eC (.int 4)) (aCons (e2 fMul (eTup (aCons (eC (.int 0)) (aNil))) (eC (.int 4))) (aCons (eCall k_by_registers (aCons (eVar 0) (aNil))) (aCons (e2 fMul (eTup (aCons (eVar 1) (aNil))) (eVar 0)) (aNil))))))))
noncomputable def b_tent (k_on_one : Con) : SX := sSeq (sPar 8 9 (aCons (eTup (aCons (eC (.str "share")) (aCons (eVar 1) (aNil)))) (aCons (eTup (aCons (eC (.str "fig")) (aCons (eVar 2) (aNil)))) (aNil)))) (sSeq (sAsg (eTup (aCons (eC (.str "most")) (aCons (eTup (aCons (eC (.str "less")) (aCons (eVar 8) (aCons (eVar 9) (aNil))))) (aCons (eTup (aCons (eC (.str "less")) (aCons (eVar 9) (aCons (eVar 8) (aNil))))) (aNil))))) (gN 5)) (sSeq (sAsg (eTup (aCons (eC (.str "most")) (aCons (eC (.tup [.str "fig", .int 0])) (aCons (eTup (aCons (eC (.str "least")) (aCons (eTup (aCons (eC (.str "fig")) (aCons (eVar 3) (aNil)))) (aCons (eTup (aCons (eC (.str "less")) (aCons (eTup (aCons (eC (.str "fig")) (aCons (eVar 3) (aNil)))) (aCons (eVar 5) (aNil))))) (aNil))))) (aNil))))) (gN 6)) (sSeq (sAsg (eIf (tOf (e2 fEq (eVar 4) (eC (.int 1)))) (eVar 6) (eTup (aCons (eC (.str "times")) (aCons (e1 fNeg (eC (.int 1))) (aCons (eVar 6) (aNil)))))) (gN 7)) (sRet (eTup (aCons (eC (.str "tent")) (aCons (eC (.int 0)) (aCons (e2 fMul (eTup (aCons (eC (.int 0)) (aNil))) (eC (.int 4))) (aCons (eCall k_on_one (aCons (eVar 0) (aCons (eVar 1) (aCons (eVar 7) (aNil))))) (aCons (e2 fMul (eTup (aCons (eTup (aNil)) (aNil))) (eVar 0)) (aNil)))))))))))
noncomputable def c_by_registers : Con := den 1 2 0 b_by_registers
noncomputable def c_rival : Con := den 2 3 0 (b_rival c_by_registers)
noncomputable def c_lagging : Con := den 1 3 0 (b_lagging c_by_registers)
noncomputable def c_tent : Con := den 5 10 0 (b_tent c_on_one)
def byS (many : Nat) : List Xp := (List.range many).map fun i => .les (.reg i) (.shr i)
def riv (many : Nat) (told : List Int) : Dbt := ⟨"rival", 4, told ++ List.replicate (4 - many) 0, byS many, List.replicate many []⟩
def lag (many : Nat) : Dbt := ⟨"lagging", 4, [0, 0, 0, 0], byS many, List.replicate many ((List.range many).map fun i => .tld i i)⟩
def tntX (s : Nat) (c w side : Int) : Xp :=
  let near : Xp := .mst (.fig 0) (.lst (.fig w) (.les (.fig w) (.mst (.les (.shr s) (.fig c)) (.les (.fig c) (.shr s)))))
  if side = 1 then near else .tim (-1) near
def tnt (many s : Nat) (c w side : Int) : Dbt := ⟨"tent", 0, [0, 0, 0, 0], (List.range many).map (onS s (tntX s c w side)), List.replicate many []⟩
theorem rep_one {x : D} : ∀ n : Nat, (List.replicate n [x]).flatten = List.replicate n x
  | 0 => rfl
  | n + 1 => by
    rw [List.replicate_succ, List.flatten_cons, rep_one n, List.replicate_succ]
    rfl
theorem rep_ok {n : Nat} {k : Int} (h : 0 < n) (h2 : n ≤ 1000) (h3 : 0 ≤ k) (h4 : k ≤ 1000) : repOk n k = true := by
  unfold repOk
  rw [decide_eq_true h, decide_eq_true h2, decide_eq_true h3, decide_eq_true h4]
  rfl
theorem deeds0 (many : Nat) : (List.replicate many ([] : List De)).map dsD = List.replicate many (.tup []) := by rw [List.map_replicate]; rfl
theorem rep_bare {x : D} (h : bare x = true) (n : Nat) : bareL (List.replicate n x) = true := bareL_iff.mpr fun d hd => by rw [List.eq_of_mem_replicate hd]; exact h
theorem CV_byregs {S : Sto} {many : Nat} {Q : D → Sto → Prop} (hm : many ≤ 1000) (q : Q (.tup ((byS many).map exD)) S) : CV c_by_registers [.int many] S Q := by
  refine CV_plain rfl ?_
  unfold b_by_registers
  (simp_arith! [])
  refine ⟨rg_ok (by omega) (by omega), ?_⟩
  rw [rg_nat]
  refine (LV_mapG (fun i : Nat => D.int (i : Int)) (fun i => exD (.les (.reg i) (.shr i))) (fun n _ => rfl) fun i K hi hK => ?_).imp fun out S2 q2 => ?_
  · (simp_arith! [])
    exact hK
  obtain ⟨rfl, rfl⟩ := q2
  refine ⟨sz_le (by rw [List.length_map, List.length_range]; omega), ?_⟩
  (simp_arith! [])
  have e1 : ((List.range many).map fun i => exD (.les (.reg i) (.shr i))) = (byS many).map exD := by unfold byS; rw [List.map_map]; rfl
  rw [e1]
  exact RtP_same (exs_bare _) q
theorem CV_rival {S : Sto} {many : Nat} {told : List Int} {Q : D → Sto → Prop} (hm : many = 2 ∨ many = 3) (ht : told.length = many) (q : Q (dbD (riv many told)) S) : CV c_rival [.int many, .tup (told.map D.int)] S Q := by
  refine CV_plain rfl ?_
  unfold b_rival
  have e4 : ((4 : Int) - (many : Int)) = ((4 - many : Nat) : Int) := by omega
  (simp_arith! [r_mulT, r_addT, rep_one])
  rw [e4]
  have et : (((4 - many : Nat) : Int)).toNat = 4 - many := by omega
  rw [et]
  refine ⟨rep_ok (by decide) (by decide) (by omega) (by omega), sz_le (by rw [List.length_map, List.length_replicate]; omega), ?_⟩
  refine CV_byregs (by omega) ?_
  (simp_arith! [r_mulT, rep_one, Int.toNat_natCast])
  refine ⟨rep_ok (by decide) (by decide) (by omega) (by omega), ?_⟩
  have e2 : told.map D.int ++ List.replicate (4 - many) (D.int 0) = (told ++ List.replicate (4 - many) 0).map D.int := by rw [List.map_append, List.map_replicate]
  rw [e2, ← deeds0]
  refine RtP_same ?_ q
  show (true && (true && (bareL _ && (bareL _ && (bareL _ && true))))) = true
  rw [exs_bare, bareL_ints, deeds0, rep_bare rfl]
  rfl
theorem CV_lagging {S : Sto} {many : Nat} {Q : D → Sto → Prop} (hm : many = 2 ∨ many = 3) (q : Q (dbD (lag many)) S) : CV c_lagging [.int many] S Q := by
  refine CV_plain rfl ?_
  unfold b_lagging
  (simp_arith! [])
  refine ⟨rg_ok (by omega) (by omega), ?_⟩
  rw [rg_nat]
  refine (LV_mapG (fun i : Nat => D.int (i : Int)) (fun i => deD (.tld i i)) (fun n _ => rfl) fun i K hi hK => ?_).imp fun out S2 q2 => ?_
  · (simp_arith! [])
    exact hK
  obtain ⟨rfl, rfl⟩ := q2
  refine ⟨sz_le (by rw [List.length_map, List.length_range]; omega), ?_⟩
  (simp_arith! [r_mulT, rep04])
  refine CV_byregs (by omega) ?_
  (simp_arith! [r_mulT, rep_one, Int.toNat_natCast])
  refine ⟨rep_ok (by decide) (by decide) (by omega) (by omega), ?_⟩
  have e0 : ∀ l : List Nat, l.map (fun i => deD (.tld i i)) = deL (l.map fun i => .tld i i) := by
    intro l
    induction l with
    | nil => rfl
    | cons i l ih => rw [List.map_cons, ih, List.map_cons]; rfl
  have e1 : List.replicate many (D.tup ((List.range many).map fun i => deD (.tld i i))) = (List.replicate many ((List.range many).map fun i => De.tld i i)).map dsD := by rw [List.map_replicate, e0]; rfl
  rw [e1]
  refine RtP_same ?_ q
  show (true && (true && (true && (bareL _ && (bareL _ && true))))) = true
  have b0 : ∀ l : List Nat, bareL (deL (l.map fun i => De.tld i i)) = true := by
    intro l
    induction l with
    | nil => rfl
    | cons i l ih => rw [List.map_cons]; show (true && bareL _) = true; rw [ih]; rfl
  rw [exs_bare, List.map_replicate, rep_bare (show bare (dsD ((List.range many).map fun i => De.tld i i)) = true from b0 _)]
  rfl
theorem CV_tent {S : Sto} {many s : Nat} {c w side : Int} {Q : D → Sto → Prop} (hm : many = 2 ∨ many = 3) (q : Q (dbD (tnt many s c w side)) S) : CV c_tent [.int many, .int s, .int c, .int w, .int side] S Q := by
  refine CV_plain rfl ?_
  unfold b_tent
  have e5 : ∀ {x : D} {T : Sto} {P : D → Sto → Prop}, x = exD (tntX s c w side) → P (.tup (((List.range many).map (onS s (tntX s c w side))).map exD)) T → CV c_on_one [.int many, .int s, x] T P := fun {x T P} e p => by
    rw [e]
    exact CV_onone (by omega) p
  have fin : ∀ {P : D → Sto → Prop}, P (dbD (tnt many s c w side)) S → bare (dbD (tnt many s c w side)) = true := fun _ => by
    show (true && (true && (true && (bareL _ && (bareL _ && true))))) = true
    rw [exs_bare]
    show (true && (bareL ((List.replicate many ([] : List De)).map dsD) && true)) = true
    rw [deeds0, rep_bare rfl]
    rfl
  (simp_arith! [])
  split
  · rename_i hs
    (simp_arith! [r_mulT, rep04])
    refine e5 (by unfold tntX; rw [if_pos hs]; rfl) ?_
    (simp_arith! [r_mulT, rep_one, Int.toNat_natCast])
    refine ⟨rep_ok (by decide) (by decide) (by omega) (by omega), ?_⟩
    rw [← deeds0]
    exact RtP_same (fin q) q
  · rename_i hs
    (simp_arith! [r_mulT, rep04])
    refine e5 (by unfold tntX; rw [if_neg hs]; rfl) ?_
    (simp_arith! [r_mulT, rep_one, Int.toNat_natCast])
    refine ⟨rep_ok (by decide) (by decide) (by omega) (by omega), ?_⟩
    rw [← deeds0]
    exact RtP_same (fin q) q
end Pv
set_option Elab.async false
set_option linter.all false
set_option maxRecDepth 100000
set_option maxHeartbeats 0
namespace Pv
open PySem PySem.Spec PyProof.Rows L2
/-! chances: power, is_borne, most_off, off, sure; the laws' own most -/
noncomputable def b_power : SX := sSeq (sAsg (eC (.int 1)) (gN 2)) (sSeq (sWhile (tOf (e2 fGt (eVar 1) (eC (.int 0)))) (sSeq (sIf (tOf (e2 fEq (e2 fMod (eVar 1) (eC (.int 2))) (eC (.int 1)))) (sAsg (e2 fMul (eVar 2) (eVar 0)) (gN 2)) (sNil)) (sPar 0 1 (aCons (e2 fMul (eVar 0) (eVar 0)) (aCons (e2 fDiv (eVar 1) (eC (.int 2))) (aNil)))))) (sRet (eVar 2)))
noncomputable def b_is_borne (k_power : Con) : SX := sSeq (sAsg (e2 fMul (e2 fMul (e2 fMul (eCall k_power (aCons (e2 fAdd (eC (.int 500)) (eVar 0)) (aCons (e2 fAdd (eVar 1) (eVar 4)) (aNil)))) (eCall k_power (aCons (e2 fSub (eC (.int 500)) (eVar 0)) (aCons (e2 fSub (eVar 1) (eVar 4)) (aNil))))) (eVar 2)) (eVar 2)) (gN 5)) (sRet (e2 fLe (eVar 5) (e2 fMul (e2 fMul (eCall k_power (aCons (eC (.int 500)) (aCons (e2 fMul (eC (.int 2)) (eVar 1)) (aNil)))) (eVar 3)) (eVar 3))))
noncomputable def b_most_off (k_is_borne : Con) : SX := sSeq (sPar 4 5 (aCons (e2 fSub (e1 fNeg (eVar 1)) (eC (.int 1))) (aCons (eVar 1) (aNil)))) (sSeq (sWhile (tOf (e2 fLt (eVar 4) (eVar 5))) (sSeq (sAsg (e2 fDiv (e2 fAdd (e2 fAdd (eVar 4) (eVar 5)) (eC (.int 1))) (eC (.int 2))) (gN 6)) (sIf (tOf (eCall k_is_borne (aCons (eVar 0) (aCons (eVar 1) (aCons (eVar 2) (aCons (eVar 3) (aCons (eVar 6) (aNil)))))))) (sAsg (eVar 6) (gN 4)) (sAsg (e2 fSub (eVar 6) (eC (.int 1))) (gN 5))))) (sRet (eIf (tOf (e2 fGe (eVar 4) (e1 fNeg (eVar 1)))) (eVar 4) (eC .non))))
noncomputable def b_lpower : SX := sSeq (sAsg (eC (.int 1)) (gN 2)) (sSeq (sFor (iRg1 (eVar 1)) (gN 3) (sAsg (e2 fMul (eVar 2) (eVar 0)) (gN 2))) (sRet (eVar 2)))
noncomputable def b_lmost (k__law_power : Con) : SX := sSeq (sPar 6 7 (aCons (eC .non) (aCons (e2 fMul (e2 fMul (eCall k__law_power (aCons (eC (.int 500)) (aCons (e2 fMul (eC (.int 2)) (eVar 1)) (aNil)))) (eVar 3)) (eVar 3)) (aNil)))) (sSeq (sPar 8 9 (aCons (eBx (lDisp (aCons (eC (.int 1)) (aNil)))) (aCons (eBx (lDisp (aCons (eC (.int 1)) (aNil)))) (aNil)))) (sSeq (sFor (iRg1 (e2 fMul (eC (.int 2)) (eVar 1))) (gN 4) (sSeq (sExpr (eMt hAppend (eVar 8) (aCons (e2 fMul (e2 fIx (eVar 8) (e1 fNeg (eC (.int 1)))) (e2 fAdd (eC (.int 500)) (eVar 0))) (aNil)))) (sExpr (eMt hAppend (eVar 9) (aCons (e2 fMul (e2 fIx (eVar 9) (e1 fNeg (eC (.int 1)))) (e2 fSub (eC (.int 500)) (eVar 0))) (aNil)))))) (sSeq (sFor (iRg2 (e1 fNeg (eVar 1)) (e2 fAdd (eVar 1) (eC (.int 1)))) (gN 5) (sIf (tOf (e2 fLe (e2 fMul (e2 fMul (e2 fMul (e2 fIx (eVar 8) (e2 fAdd (eVar 1) (eVar 5))) (e2 fIx (eVar 9) (e2 fSub (eVar 1) (eVar 5)))) (eVar 2)) (eVar 2)) (eVar 7))) (sAsg (eVar 5) (gN 6)) (sNil))) (sRet (eVar 6)))))
noncomputable def b_off (k_bound : Con) : SX := sRet (e2 fDiv (e2 fMul (eC (.int 500)) (e2 fIx (eVar 0) (eC (.int 7)))) (e2 fMul (eC (.int 1000000000)) (eCall k_bound (aCons (e2 fIx (eVar 0) (eC (.int 1))) (aNil)))))
noncomputable def b_sure (k_most_off k_bound : Con) : SX := sRet (eCall k_most_off (aCons (eCall k_bound (aCons (e2 fIx (eVar 0) (eC (.int 1))) (aNil))) (aCons (e2 fIx (eVar 0) (eC (.int 6))) (aCons (e2 fIx (eVar 0) (eC (.int 3))) (aCons (e2 fAdd (e2 fIx (eVar 0) (eC (.int 4))) (e2 fIx (eVar 0) (eC (.int 5)))) (aNil))))))
noncomputable def c_power : Con := den 2 3 0 b_power
noncomputable def c_is_borne : Con := den 5 6 0 (b_is_borne c_power)
noncomputable def c_most_off : Con := den 4 7 0 (b_most_off c_is_borne)
noncomputable def c_lpower : Con := den 2 4 0 b_lpower
noncomputable def c_lmost : Con := den 4 10 0 (b_lmost c_lpower)
noncomputable def c_off (n : Nat) : Con := den 1 1 0 (b_off (c_bound n))
noncomputable def c_sure (n : Nat) : Con := den 1 1 0 (b_sure c_most_off (c_bound n))
/-- a number of less than k bits -/
def bt (k : Nat) (z : Int) : Prop := z.natAbs < 2 ^ k
theorem bt.mono {k j : Nat} {z : Int} (h : bt k z) (hk : k ≤ j) : bt j z := Nat.lt_of_lt_of_le h (Nat.pow_le_pow_right (by decide) hk)
theorem bt.mul {k j : Nat} {a b : Int} (h : bt k a) (g : bt j b) : bt (k + j) (a * b) := by
  unfold bt at *
  rw [Int.natAbs_mul, Nat.pow_add]
  exact Nat.mul_lt_mul'' h g
theorem bt.pow {b : Int} {k : Nat} (h : bt k b) : ∀ n : Nat, bt (k * n + 1) (b ^ n)
  | 0 => by rw [Int.pow_zero, Nat.mul_zero]; show (1 : Int).natAbs < 2 ^ 1; decide
  | n + 1 => by
    have h1 := (bt.pow h n).mul h
    rw [Int.pow_succ]
    exact h1.mono (by rw [Nat.mul_succ]; omega)
theorem bt_ok {k j : Nat} {a b : Int} (h : bt k a) (g : bt j b) (hk : k ≤ 400000) (hj : j ≤ 400000) : mulOk a b = true := by
  have h1 := log2_lt (h.mono (Nat.le_succ k)) (Nat.succ_pos k)
  have h2 := log2_lt (g.mono (Nat.le_succ j)) (Nat.succ_pos j)
  unfold mulOk
  exact decide_eq_true (by omega)
theorem bt_sm {k : Nat} {z : Int} (h : bt k z) (hk : k ≤ 9000) : sm z := h.mono hk
theorem bt_10 {b : Int} (h0 : 0 ≤ b) (h : b ≤ 1000) : bt 10 b := by unfold bt; omega
theorem CV_power {S : Sto} {b : Int} {c : Nat} {Q : D → Sto → Prop} (h0 : 0 ≤ b) (h1 : b ≤ 1000) (hc : c ≤ 10000) (q : Q (.int (b ^ c)) S) : CV c_power [.int b, .int c] S Q := by
  have hb := bt_10 h0 h1
  refine CV_plain rfl ?_
  unfold b_power
  (simp_arith! [])
  refine SV_whileI (fun n e' S' => ∃ j k : Nat, j + k * n = c ∧ j ≤ 10000 ∧ S' = S ∧ e' = [some (.int (b ^ k)), some (.int n), some (.int (b ^ j))]) c ⟨0, 1, by omega, by omega, rfl, by rw [Int.pow_succ, Int.pow_zero, Int.one_mul]⟩ ?_
  rintro m e' S' K ⟨j, k, hj, hj2, rfl, rfl⟩ hK
  (simp_arith! [])
  cases m with
  | zero =>
    rw [if_neg (by omega)]
    rw [show j = c by omega]
    exact RtP_same rfl q
  | succ m =>
    have hk : k ≤ c := by rw [Nat.mul_succ] at hj; omega
    have bk := hb.pow k
    have bj := hb.pow j
    have e2 : (((m + 1 : Nat) : Int)).fmod 2 = (((m + 1) % 2 : Nat) : Int) := by rw [Int.fmod_eq_emod_of_nonneg _ (by decide)]; omega
    have e3 : (((m + 1 : Nat) : Int)).fdiv 2 = (((m + 1) / 2 : Nat) : Int) := by rw [Int.fdiv_eq_ediv_of_nonneg _ (by decide)]; omega
    have sq : b ^ k * b ^ k = b ^ (k + k) := by rw [Int.pow_add]
    rw [if_pos (by omega)]
    rw [e2]
    refine ⟨by decide, ?_⟩
    split
    · rename_i ho
      (simp_arith! [])
      refine ⟨bt_ok bj bk (by omega) (by omega), bt_ok bk bk (by omega) (by omega), sm_div (sm_k (by decide)) (by decide), (fun n hn => nomatch hn), ?_⟩
      rw [e3, sq, ← Int.pow_add]
      have em : m + 1 = 2 * ((m + 1) / 2) + 1 := by omega
      have hk2 : j + k + (k + k) * ((m + 1) / 2) = c := by
        rw [em, Nat.mul_succ, ← Nat.mul_assoc, Nat.mul_comm k 2, Nat.two_mul] at hj
        omega
      exact hK _ _ _ (by omega) ⟨j + k, k + k, hk2, by omega, rfl, rfl⟩
    · rename_i ho
      (simp_arith! [])
      refine ⟨bt_ok bk bk (by omega) (by omega), sm_div (sm_k (by decide)) (by decide), (fun n hn => nomatch hn), ?_⟩
      rw [e3, sq]
      have em : m + 1 = 2 * ((m + 1) / 2) := by omega
      have hk2 : j + (k + k) * ((m + 1) / 2) = c := by
        rw [em, ← Nat.mul_assoc, Nat.mul_comm k 2, Nat.two_mul] at hj
        omega
      exact hK _ _ _ (by omega) ⟨j, k + k, hk2, by omega, rfl, rfl⟩
/-- what so many days that come to u make, and what is held -/
def madeU (f : Int) (n : Nat) (w u : Int) : Int := (500 + f) ^ (n + u).toNat * (500 - f) ^ (n - u).toNat * w * w
def dueU (n : Nat) (h : Int) : Int := 500 ^ (2 * n) * h * h
def PB (f : Int) (n : Nat) (w h u : Int) : Prop := madeU f n w u ≤ dueU n h
theorem CV_borne {S : Sto} {f w h u : Int} {n : Nat} {Q : D → Sto → Prop} (f0 : 1 ≤ f) (f1 : f ≤ 500) (hn : n ≤ 1000) (hw : bt 20000 w) (hh : bt 20000 h) (u0 : -n ≤ u) (u1 : u ≤ n) (q : Q (.bl (decide (madeU f n w u ≤ dueU n h))) S) : CV c_is_borne [.int f, .int n, .int w, .int h, .int u] S Q := by
  refine CV_plain rfl ?_
  unfold b_is_borne
  have e1 : (n : Int) + u = (((n + u).toNat : Nat) : Int) := by omega
  have e2 : (n : Int) - u = (((n - u).toNat : Nat) : Int) := by omega
  have e3 : 2 * (n : Int) = ((2 * n : Nat) : Int) := by omega
  have b1 := (bt_10 (b := 500 + f) (by omega) (by omega)).pow (n + u).toNat
  have b2 := (bt_10 (b := 500 - f) (by omega) (by omega)).pow (n - u).toNat
  have b3 := (bt_10 (b := 500) (by decide) (by decide)).pow (2 * n)
  have l1 : (n + u).toNat ≤ 2000 := by omega
  have l2 : (n - u).toNat ≤ 2000 := by omega
  (simp_arith! [])
  rw [e1]
  refine CV_power (by omega) (by omega) (by omega) ?_
  (simp_arith! [])
  rw [e2]
  refine CV_power (by omega) (by omega) (by omega) ?_
  (simp_arith! [])
  refine ⟨bt_ok b1 b2 (by omega) (by omega), bt_ok (b1.mul b2) hw (by omega) (by omega), bt_ok ((b1.mul b2).mul hw) hw (by omega) (by omega), bt_ok (bt_10 (b := 2) (by decide) (by decide)) (show bt 12 (n : Int) by unfold bt; omega) (by decide) (by decide), ?_⟩
  rw [e3]
  refine CV_power (by decide) (by decide) (by omega) ?_
  (simp_arith! [])
  exact ⟨bt_ok b3 hh (by omega) (by omega), bt_ok (b3.mul hh) hh (by omega) (by omega), RtP_same rfl q⟩
theorem made_step {f w u : Int} {n : Nat} (f0 : 0 ≤ f) (f1 : f ≤ 500) (u0 : -n ≤ u) (u1 : u < n) : madeU f n w u ≤ madeU f n w (u + 1) := by
  unfold madeU
  have e1 : (n + (u + 1)).toNat = (n + u).toNat + 1 := by omega
  have e2 : (n - u).toNat = (n - (u + 1)).toNat + 1 := by omega
  rw [e1, e2]
  generalize (n + u).toNat = a
  generalize (n - (u + 1)).toNat = b
  have p0 : (0 : Int) ≤ (500 + f) ^ a := Int.pow_nonneg (by omega)
  have q0 : (0 : Int) ≤ (500 - f) ^ b := Int.pow_nonneg (by omega)
  have h1 : (500 + f) ^ a * (500 - f) ^ (b + 1) ≤ (500 + f) ^ (a + 1) * (500 - f) ^ b := by
    rw [Int.pow_succ, Int.pow_succ]
    have e3 : (500 + f) ^ a * ((500 - f) ^ b * (500 - f)) = (500 + f) ^ a * (500 - f) ^ b * (500 - f) := by rw [Int.mul_assoc]
    have e4 : (500 + f) ^ a * (500 + f) * (500 - f) ^ b = (500 + f) ^ a * (500 - f) ^ b * (500 + f) := by rw [Int.mul_assoc, Int.mul_comm (500 + f) ((500 - f) ^ b), ← Int.mul_assoc]
    rw [e3, e4]
    exact Int.mul_le_mul_of_nonneg_left (by omega) (Int.mul_nonneg p0 q0)
  rw [Int.mul_assoc _ w w, Int.mul_assoc _ w w]
  have ww : 0 ≤ w * w := by
    rcases Int.le_total 0 w with h | h
    · exact Int.mul_nonneg h h
    · exact Int.mul_nonneg_of_nonpos_of_nonpos h h
  exact Int.mul_le_mul_of_nonneg_right h1 ww
theorem made_mono {f w : Int} {n : Nat} (f0 : 0 ≤ f) (f1 : f ≤ 500) : ∀ (k : Nat) {u : Int}, -n ≤ u → u + k ≤ n → madeU f n w u ≤ madeU f n w (u + k)
  | 0, u, _, _ => by rw [show u + ((0 : Nat) : Int) = u by omega]; exact Int.le_refl _
  | k + 1, u, h1, h2 => by
    have h3 := made_mono (w := w) f0 f1 k h1 (by omega)
    have h4 := made_step (n := n) (w := w) (u := u + k) f0 f1 (by omega) (by omega)
    rw [show u + ((k + 1 : Nat) : Int) = u + k + 1 by omega]
    exact Int.le_trans h3 h4
theorem PB.down {f w h u v : Int} {n : Nat} (f0 : 0 ≤ f) (f1 : f ≤ 500) (hv : PB f n w h v) (hu : -n ≤ u) (huv : u ≤ v) (hn : v ≤ n) : PB f n w h u := by
  have := made_mono (w := w) f0 f1 (v - u).toNat hu (by omega)
  rw [show u + ((v - u).toNat : Int) = v by omega] at this
  exact Int.le_trans this hv
def optD : Option Int → D
  | none => .non
  | some z => .int z
/-- the greatest that is borne -/
def IsMost (f : Int) (n : Nat) (w h : Int) : Option Int → Prop
  | none => ∀ u : Int, -n ≤ u → u ≤ n → ¬ PB f n w h u
  | some u => -n ≤ u ∧ u ≤ n ∧ PB f n w h u ∧ ∀ v : Int, u < v → v ≤ n → ¬ PB f n w h v
theorem IsMost.uniq {f w h : Int} {n : Nat} : ∀ {r s : Option Int}, IsMost f n w h r → IsMost f n w h s → r = s
  | none, none, _, _ => rfl
  | none, some u, a, ⟨h1, h2, h3, _⟩ => absurd h3 (a u h1 h2)
  | some u, none, ⟨h1, h2, h3, _⟩, a => absurd h3 (a u h1 h2)
  | some u, some v, ⟨h1, h2, h3, h4⟩, ⟨k1, k2, k3, k4⟩ => by
    have : u = v := by
      rcases Int.lt_trichotomy u v with z | z | z
      · exact absurd k3 (h4 v z k2)
      · exact z
      · exact absurd h3 (k4 u z h2)
    rw [this]
theorem CV_mostoff {S : Sto} {f w h : Int} {n : Nat} {Q : D → Sto → Prop} (f0 : 1 ≤ f) (f1 : f ≤ 500) (hn : n ≤ 1000) (hw : bt 20000 w) (hh : bt 20000 h) (q : ∀ r, IsMost f n w h r → Q (optD r) S) : CV c_most_off [.int f, .int n, .int w, .int h] S Q := by
  refine CV_plain rfl ?_
  unfold b_most_off
  (simp_arith! [])
  refine SV_whileI (fun m e' S' => ∃ (lo hi : Int) (x6 : Option D), m = (hi - lo).toNat ∧ -(n : Int) - 1 ≤ lo ∧ lo ≤ hi ∧ hi ≤ n ∧ (lo = -(n : Int) - 1 ∨ PB f n w h lo) ∧ (∀ v : Int, hi < v → v ≤ n → ¬ PB f n w h v) ∧ S' = S ∧ e' = [some (.int f), some (.int n), some (.int w), some (.int h), some (.int lo), some (.int hi), x6]) ((n : Int) - (-(n : Int) - 1)).toNat ⟨-(n : Int) - 1, n, none, by omega, by omega, by omega, by omega, .inl rfl, fun v h1 h2 => by omega, rfl, rfl⟩ ?_
  rintro m e' S' K ⟨lo, hi, x6, rfl, l1, l2, l3, l4, l5, rfl, rfl⟩ hK
  (simp_arith! [])
  by_cases hlt : lo < hi
  · rw [if_pos hlt]
    have e1 : (lo + hi + 1).fdiv 2 = (lo + hi + 1) / 2 := Int.fdiv_eq_ediv_of_nonneg _ (by decide)
    rw [e1]
    generalize hm : (lo + hi + 1) / 2 = a
    have a1 : lo < a := by omega
    have a2 : a ≤ hi := by omega
    refine ⟨sm_div (sm_k (by decide)) (by decide), ?_⟩
    refine CV_borne f0 f1 hn hw hh (by omega) (by omega) ?_
    (simp_arith! [])
    split
    · rename_i hp
      exact ⟨(fun n hn => nomatch hn), hK _ _ _ (by omega) ⟨a, hi, _, rfl, by omega, a2, l3, .inr hp, l5, rfl, rfl⟩⟩
    · rename_i hp
      refine ⟨(fun n hn => nomatch hn), hK _ _ _ (by omega) ⟨lo, a - 1, _, rfl, l1, by omega, by omega, l4, fun v h1 h2 h3 => ?_, rfl, rfl⟩⟩
      exact hp (h3.down (by omega) f1 (by omega) (by omega) h2)
  · rw [if_neg hlt]
    have e : hi = lo := by omega
    subst e
    split
    · rename_i hc
      have := q (some hi) ⟨hc, by omega, by rcases l4 with z | z; omega; exact z, l5⟩
      exact RtP_same rfl this
    · rename_i hc
      have := q none fun u h1 h2 => l5 u (by omega) h2
      exact RtP_same rfl this
end Pv
set_option Elab.async false
set_option linter.all false
set_option maxRecDepth 100000
set_option maxHeartbeats 0
namespace Pv
open PySem PySem.Spec PyProof.Rows L2
/-! the laws' own power and most; off, sure -/
theorem rgD_nil {a b : Int} (h : b ≤ a) : rgD a b = [] := by
  unfold rgD
  rw [show (b - a).toNat = 0 by omega]
  rfl
theorem rgD_cons {a b : Int} (h : a < b) : rgD a b = .int a :: rgD (a + 1) b := by
  unfold rgD
  rw [show (b - a).toNat = (b - (a + 1)).toNat + 1 by omega, List.range_succ_eq_map, List.map_cons, List.map_map]
  congr 1
  · congr 1; omega
  · apply List.map_congr_left
    intro i _
    show D.int (a + ((i + 1 : Nat) : Int)) = _
    congr 1
    omega
theorem rgD_inv {a b : Int} {d : D} {r : List D} (h : d :: r = rgD a b) : a < b ∧ d = .int a ∧ r = rgD (a + 1) b := by
  by_cases hl : a < b
  · rw [rgD_cons hl] at h
    exact ⟨hl, (List.cons.inj h).1, (List.cons.inj h).2⟩
  · rw [rgD_nil (by omega)] at h
    cases h
theorem rgD_end {a b : Int} (h : [] = rgD a b) : b ≤ a := by
  by_cases hl : a < b
  · rw [rgD_cons hl] at h
    cases h
  · omega
theorem CV_lpower {S : Sto} {b : Int} {c : Nat} {Q : D → Sto → Prop} (h0 : 0 ≤ b) (h1 : b ≤ 1000) (hc : c ≤ 10000) (q : Q (.int (b ^ c)) S) : CV c_lpower [.int b, .int c] S Q := by
  have hb := bt_10 h0 h1
  refine CV_plain rfl ?_
  unfold b_lpower
  (simp_arith! [])
  refine ⟨rg_ok (by omega) (by omega), ?_⟩
  refine SV_forI (fun r e' S' => ∃ (j : Nat) (x : Option D), r = rgD j c ∧ j ≤ c ∧ S' = S ∧ e' = [some (.int b), some (.int c), some (.int (b ^ j)), x]) ⟨0, none, rfl, by omega, rfl, by rw [Int.pow_zero]⟩ ?_ ?_
  · rintro d r e' S' K ⟨j, x, hr, hj, rfl, rfl⟩ hK
    obtain ⟨h2, rfl, rfl⟩ := rgD_inv hr
    have bj := hb.pow j
    (simp_arith! [])
    refine ⟨bt_ok bj hb (by omega) (by omega), (fun n hn => nomatch hn), hK _ _ ⟨j + 1, _, by rw [Int.natCast_add]; rfl, by omega, rfl, by rw [Int.pow_succ]⟩⟩
  · rintro e' S' ⟨j, x, hr, hj, rfl, rfl⟩
    have := rgD_end hr
    have e : j = c := by omega
    subst e
    (simp_arith! [])
    exact RtP_same rfl q
/-- powers one by one -/
def pwL (p : Int) (k : Nat) : List D := (List.range (k + 1)).map fun i : Nat => D.int (p ^ i)
theorem pwL_succ (p : Int) (k : Nat) : pwL p (k + 1) = pwL p k ++ [.int (p ^ (k + 1))] := by
  unfold pwL
  rw [List.range_succ, List.map_append]
  rfl
theorem pwL_0 (p : Int) : pwL p 0 = [.int 1] := by
  show [D.int (p ^ 0)] = _
  rw [Int.pow_zero]
theorem pwL_last (p : Int) (k : Nat) : atI (pwL p k) (-1) = some (.int (p ^ k)) := by
  cases k with
  | zero => rw [pwL_0, Int.pow_zero]; rfl
  | succ k => rw [pwL_succ]; exact at_last
theorem pwL_len (p : Int) (k : Nat) : (pwL p k).length = k + 1 := by simp [pwL]
theorem pwL_at (p : Int) {k i : Nat} (h : i ≤ k) : atI (pwL p k) (i : Int) = some (.int (p ^ i)) := by
  rw [at_nat]
  unfold pwL
  rw [List.getElem?_map, List.getElem?_range (by omega)]
  rfl
/-- the greatest up to v -/
def MostTo (f : Int) (n : Nat) (w h v : Int) : Option Int → Prop
  | none => ∀ u : Int, -n ≤ u → u < v → ¬ PB f n w h u
  | some u => -n ≤ u ∧ u < v ∧ PB f n w h u ∧ ∀ x : Int, u < x → x < v → ¬ PB f n w h x
theorem CV_lmost {S : Sto} {f w h : Int} {n : Nat} {Q : D → Sto → Prop} (f0 : 1 ≤ f) (f1 : f ≤ 500) (hn : n ≤ 1000) (hw : bt 20000 w) (hh : bt 20000 h) (q : ∀ r, IsMost f n w h r → Q (optD r) S) : CV c_lmost [.int f, .int n, .int w, .int h] S Q := by
  refine CV_plain rfl ?_
  unfold b_lmost
  have e3 : 2 * (n : Int) = ((2 * n : Nat) : Int) := by omega
  have bp := bt_10 (b := 500 + f) (by omega) (by omega)
  have bq := bt_10 (b := 500 - f) (by omega) (by omega)
  have b3 := (bt_10 (b := 500) (by decide) (by decide)).pow (2 * n)
  (simp_arith! [])
  refine ⟨bt_ok (bt_10 (b := 2) (by decide) (by decide)) (show bt 12 (n : Int) by unfold bt; omega) (by decide) (by decide), ?_⟩
  rw [e3]
  refine CV_lpower (by decide) (by decide) (by omega) ?_
  (simp_arith! [])
  refine ⟨bt_ok b3 hh (by omega) (by omega), bt_ok (b3.mul hh) hh (by omega) (by omega), ?_⟩
  (simp_arith! [app_two, len_app1])
  refine ⟨bt_ok (bt_10 (b := 2) (by decide) (by decide)) (show bt 12 (n : Int) by unfold bt; omega) (by decide) (by decide), rg_ok (by omega) (by omega), ?_⟩
  have ed : 500 ^ (2 * n) * h * h = dueU n h := rfl
  rw [ed]
  refine SV_forI (fun r e' S' => ∃ (j : Nat) (x4 : Option D), r = rgD j (2 * n : Nat) ∧ j ≤ 2 * n ∧ S' = S ++ [.lst (pwL (500 + f) j), .lst (pwL (500 - f) j)] ∧ e' = [some (.int f), some (.int n), some (.int w), some (.int h), x4, none, some .non, some (.int (dueU n h)), some (.ref S.length), some (.ref (S.length + 1))]) ⟨0, none, rfl, by omega, by rw [pwL_0, pwL_0], rfl⟩ ?_ ?_
  · rintro d r e' S' K ⟨j, x4, hr, hj, rfl, rfl⟩ hK
    obtain ⟨h2, rfl, rfl⟩ := rgD_inv hr
    have b1 := bp.pow j
    have b2 := bq.pow j
    (simp_arith! [box_1st, pwL_last])
    refine ⟨bt_ok b1 bp (by omega) (by omega), ?_⟩
    refine ex_append.mpr ⟨sz_le (by rw [pwL_len]; omega), ?_⟩
    rw [set_1st]
    (simp_arith! [box_2nd, pwL_last])
    refine ⟨bt_ok b2 bq (by omega) (by omega), ?_⟩
    refine ex_append.mpr ⟨sz_le (by rw [pwL_len]; omega), ?_⟩
    rw [set_2nd]
    refine ⟨(fun n hn => nomatch hn), hK _ _ ⟨j + 1, _, by rw [Int.natCast_add]; rfl, by omega, ?_, rfl⟩⟩
    rw [pwL_succ, pwL_succ, Int.pow_succ, Int.pow_succ]
  · rintro e' S' ⟨j, x4, hr, hj, rfl, rfl⟩
    have := rgD_end hr
    have e : j = 2 * n := by omega
    subst e
    (simp_arith! [])
    refine ⟨by rw [rg_ok (by omega) (by omega), rg_ok (by omega) (by omega)]; rfl, ?_⟩
    refine SV_forI (fun r e' S' => ∃ (v : Int) (m : Option Int) (x5 : Option D), r = rgD v (n + 1) ∧ -n ≤ v ∧ v ≤ n + 1 ∧ MostTo f n w h v m ∧ S' = S ++ [.lst (pwL (500 + f) (2 * n)), .lst (pwL (500 - f) (2 * n))] ∧ e' = [some (.int f), some (.int n), some (.int w), some (.int h), x4, x5, some (optD m), some (.int (dueU n h)), some (.ref S.length), some (.ref (S.length + 1))]) ⟨-n, none, none, rfl, by omega, by omega, fun u h1 h2 => by omega, rfl, rfl⟩ ?_ ?_
    · rintro d r e' S' K ⟨v, m, x5, hr, v0, v1, hm, rfl, rfl⟩ hK
      obtain ⟨h2, rfl, rfl⟩ := rgD_inv hr
      obtain ⟨i, a1, hi⟩ : ∃ i : Nat, (n : Int) + v = (i : Int) ∧ (n + v).toNat = i := ⟨(n + v).toNat, by omega, rfl⟩
      obtain ⟨j, a2, hj⟩ : ∃ i : Nat, (n : Int) - v = (i : Int) ∧ (n - v).toNat = i := ⟨(n - v).toNat, by omega, rfl⟩
      have c1 := bp.pow i
      have c2 := bq.pow j
      have l1 : i ≤ 2 * n := by omega
      have l2 : j ≤ 2 * n := by omega
      (simp_arith! [box_1st, box_2nd, a1, a2, pwL_at _ l1, pwL_at _ l2])
      refine ⟨bt_ok c1 c2 (by omega) (by omega), bt_ok (c1.mul c2) hw (by omega) (by omega), bt_ok ((c1.mul c2).mul hw) hw (by omega) (by omega), ?_⟩
      have em : (500 + f) ^ i * (500 - f) ^ j * w * w = madeU f n w v := by unfold madeU; rw [hi, hj]
      rw [em]
      split
      · rename_i hp
        exact ⟨(fun n hn => nomatch hn), hK _ _ ⟨v + 1, some v, _, rfl, by omega, by omega, ⟨v0, by omega, hp, fun x h3 h4 => by omega⟩, rfl, rfl⟩⟩
      · rename_i hp
        refine ⟨(fun n hn => nomatch hn), hK _ _ ⟨v + 1, m, _, rfl, by omega, by omega, ?_, rfl, rfl⟩⟩
        cases m with
        | none =>
          intro u h3 h4
          by_cases hu : u = v
          · subst hu; exact hp
          · exact hm u h3 (by omega)
        | some u0 =>
          obtain ⟨k1, k2, k3, k4⟩ := hm
          refine ⟨k1, by omega, k3, fun x h3 h4 => ?_⟩
          by_cases hu : x = v
          · subst hu; exact hp
          · exact k4 x h3 (by omega)
    · rintro e' S' ⟨v, m, x5, hr, v0, v1, hm, rfl, rfl⟩
      have := rgD_end hr
      have ev : v = n + 1 := by omega
      subst ev
      (simp_arith! [])
      refine ⟨⟨_, rfl⟩, .inl ⟨by cases m <;> rfl, q m ?_⟩⟩
      cases m with
      | none => exact fun u h1 h2 => hm u h1 (by omega)
      | some u =>
        obtain ⟨k1, k2, k3, k4⟩ := hm
        exact ⟨k1, by omega, k3, fun x h3 h4 => k4 x h3 (by omega)⟩
/-! a one's bound -/
structure OneG (many : Nat) (d : Dbt) : Prop where
  sc : d.scale < 5
  l0 : 0 < d.stakes.length
  l1 : d.stakes.length ≤ 1000
  st : ∀ e, e ∈ d.stakes → exOk many e ∧ lev e ≤ 8
  fa : ∀ e, e ∈ d.stakes → -(500 * 2 ^ d.scale) ≤ (sp e).1 ∧ (sp e).2 ≤ 500 * 2 ^ d.scale
theorem far_in {many : Nat} {d : Dbt} (g : OneG many d) : 0 ≤ maxL (ends d) ∧ maxL (ends d) ≤ 500 * 2 ^ d.scale ∧ ∀ e, e ∈ d.stakes → absI (sp e).1 ≤ maxL (ends d) ∧ absI (sp e).2 ≤ maxL (ends d) := by
  have hl := ends_len d
  have h0 := g.l0
  obtain ⟨h1, h2⟩ := maxL_mem (show 0 < (ends d).length by omega)
  have h3 : ∀ k, k ∈ ends d → 0 ≤ k ∧ k ≤ 500 * 2 ^ d.scale := by
    intro k hk
    unfold ends at hk
    obtain ⟨l, hl, hk⟩ := List.mem_flatten.mp hk
    obtain ⟨e, he, rfl⟩ := List.mem_map.mp hl
    obtain ⟨f1, f2⟩ := g.fa e he
    have := sp_le e (g.st e he).1
    simp only [List.mem_cons, List.not_mem_nil, or_false] at hk
    rcases hk with rfl | rfl <;> (unfold absI; split <;> omega)
  refine ⟨(h3 _ h1).1, (h3 _ h1).2, fun e he => ⟨h2 _ ?_, h2 _ ?_⟩⟩
  · unfold ends
    exact List.mem_flatten.mpr ⟨_, List.mem_map.mpr ⟨e, he, rfl⟩, by simp⟩
  · unfold ends
    exact List.mem_flatten.mpr ⟨_, List.mem_map.mpr ⟨e, he, rfl⟩, by simp⟩
theorem bnd_in {many : Nat} {d : Dbt} (g : OneG many d) : 1 ≤ bnd d ∧ bnd d ≤ 500 ∧ maxL (ends d) ≤ bnd d * 2 ^ d.scale := by
  obtain ⟨h1, h2, _⟩ := far_in g
  have p := pw_sc g.sc
  unfold bnd
  generalize maxL (ends d) = m at *
  generalize (2 : Int) ^ d.scale = k at *
  have e1 : (-m).fdiv k = (-m) / k := Int.fdiv_eq_ediv_of_nonneg _ (by omega)
  rw [e1]
  have e2 : -500 ≤ (-m) / k := by
    have := Int.ediv_le_ediv (show 0 < k by omega) (show -(500 * k) ≤ -m by omega)
    rw [show -(500 * k) = (-500) * k by omega, Int.mul_ediv_cancel _ (by omega)] at this
    exact this
  have e3 : (-m) / k * k ≤ -m := Int.ediv_mul_le _ (by omega)
  split
  · rename_i hc
    refine ⟨by omega, by omega, ?_⟩
    rw [Int.neg_mul]
    omega
  · rename_i hc
    refine ⟨by omega, by omega, ?_⟩
    rw [Int.one_mul]
    have : (-1) * k ≤ (-m) / k * k := Int.mul_le_mul_of_nonneg_right (by omega) (by omega)
    omega
theorem CV_off {S : Sto} {many n : Nat} {d : Dbt} {o : One} {Q : D → Sto → Prop} (g : OneG many d) (hn : 8 < n) (hg : bt 5000 o.got) (q : Q (.int ((500 * o.got).fdiv (1000000000 * bnd d))) S) : CV (c_off n) [onD (dbD d) o] S Q := by
  obtain ⟨h1, h2, _⟩ := bnd_in g
  refine CV_plain rfl ?_
  unfold b_off onD
  have a7 : ∀ {x0 x1 x2 x3 x4 x5 x6 x7 : D}, atI [x0, x1, x2, x3, x4, x5, x6, x7] 7 = some x7 := rfl
  (simp_arith! [a7])
  refine ⟨bt_ok (bt_10 (b := 500) (by decide) (by decide)) hg (by decide) (by decide), ?_⟩
  refine CV_bound g.sc g.l0 g.l1 (fun e he => ⟨(g.st e he).1, by have := (g.st e he).2; omega, by have := (g.st e he).2; omega⟩) ?_
  (simp_arith! [])
  exact ⟨sm_mul (sm_k (by decide)) (sm_k (by omega)), sm_div (sm_k (by omega)) (by omega), RtP_same rfl q⟩
theorem CV_sure {S : Sto} {many n : Nat} {d : Dbt} {o : One} {k : Nat} {Q : D → Sto → Prop} (g : OneG many d) (hn : 8 < n) (hk : o.days = k) (hk2 : k ≤ 1000) (hw : bt 20000 o.weight) (hh : bt 20000 (o.purse + o.owed)) (q : ∀ r, IsMost (bnd d) k o.weight (o.purse + o.owed) r → Q (optD r) S) : CV (c_sure n) [onD (dbD d) o] S Q := by
  obtain ⟨h1, h2, _⟩ := bnd_in g
  refine CV_plain rfl ?_
  unfold b_sure onD
  have a4 : ∀ {x0 x1 x2 x3 x4 x5 x6 x7 : D}, atI [x0, x1, x2, x3, x4, x5, x6, x7] 4 = some x4 := rfl
  have a5 : ∀ {x0 x1 x2 x3 x4 x5 x6 x7 : D}, atI [x0, x1, x2, x3, x4, x5, x6, x7] 5 = some x5 := rfl
  have a6 : ∀ {x0 x1 x2 x3 x4 x5 x6 x7 : D}, atI [x0, x1, x2, x3, x4, x5, x6, x7] 6 = some x6 := rfl
  (simp_arith! [])
  refine CV_bound g.sc g.l0 g.l1 (fun e he => ⟨(g.st e he).1, by have := (g.st e he).2; omega, by have := (g.st e he).2; omega⟩) ?_
  (simp_arith! [a4, a5, a6, hk])
  exact CV_mostoff h1 h2 hk2 hw hh fun r hr => RtP_same (by cases r <;> rfl) (q r hr)
end Pv
set_option Elab.async false
set_option linter.all false
set_option maxRecDepth 100000
set_option maxHeartbeats 0
namespace Pv
open PySem PySem.Spec PyProof.Rows L2
/-! misses, rival_misses -/
noncomputable def b_more (k_common : Con) : SX := sSeq (sAsg (eTup (aCons (e2 fAdd (e2 fMul (e2 fIx (eVar 0) (eC (.int 0))) (eVar 2)) (e2 fMul (eVar 1) (e2 fIx (eVar 0) (eC (.int 1))))) (aCons (e2 fMul (e2 fIx (eVar 0) (eC (.int 1))) (eVar 2)) (aNil)))) (gN 3)) (sSeq (sAsg (eCall k_common (aCons (eVar 3) (aNil))) (gN 4)) (sRet (eTup (aCons (e2 fDiv (e2 fIx (eVar 3) (eC (.int 0))) (eCB (fn1 gAbs) (aCons (eVar 4) (aNil)))) (aCons (e2 fDiv (e2 fIx (eVar 3) (eC (.int 1))) (eCB (fn1 gAbs) (aCons (eVar 4) (aNil)))) (aNil))))))
noncomputable def b_miss : SX := sSeq (sAsg (eCB (fn1 gSum) (aCons (eVar 0) (aNil))) (gN 2)) (sSeq (sAsg (e2 fAdd (e2 fSub (e2 fMul (eVar 2) (eVar 2)) (e2 fMul (e2 fMul (eC (.int 2)) (eVar 2)) (e2 fIx (eVar 0) (eVar 1)))) (eCB (fn1 gSum) (aCons (eFz (lLc (iSeq (eVar 0)) (gN 4) (tYes') (e2 fMul (eVar 4) (eVar 4)) [4])) (aNil)))) (gN 3)) (sRet (eTup (aCons (eVar 3) (aCons (e2 fMul (eVar 2) (eVar 2)) (aNil))))))
noncomputable def b_misses (k_miss k_more : Con) : SX := sSeq (sAsg (eTup (aCons (eC (.int 0)) (aCons (eC (.int 1)) (aNil)))) (gN 2)) (sSeq (sFor (iSeq (eVar 0)) (gT 2 (gsCons (gN 3) (gsCons (gN 4) (gsNil)))) (sSeq (sAsg (eCall k_miss (aCons (eVar 3) (aCons (eVar 4) (aNil)))) (gT 2 (gsCons (gN 5) (gsCons (gN 6) (gsNil))))) (sAsg (eCall k_more (aCons (eVar 2) (aCons (eVar 5) (aCons (eVar 6) (aNil))))) (gN 2)))) (sRet (eVar 2)))
noncomputable def b_rival_misses (k_miss k_more : Con) : SX := sSeq (sAsg (eTup (aCons (eC (.int 0)) (aCons (eC (.int 1)) (aNil)))) (gN 2)) (sSeq (sFor (iSeq (eVar 0)) (gT 2 (gsCons (gN 3) (gsCons (gN 4) (gsNil)))) (sSeq (sAsg (eCall k_miss (aCons (eVar 1) (aCons (eVar 4) (aNil)))) (gT 2 (gsCons (gN 5) (gsCons (gN 6) (gsNil))))) (sAsg (eCall k_more (aCons (eVar 2) (aCons (eVar 5) (aCons (eVar 6) (aNil))))) (gN 2)))) (sRet (eVar 2)))
noncomputable def c_more : Con := den 3 5 0 (b_more c_common)
noncomputable def c_miss : Con := den 2 5 0 b_miss
noncomputable def c_misses : Con := den 2 7 0 (b_misses c_miss c_more)
noncomputable def c_rival_misses : Con := den 2 7 0 (b_rival_misses c_miss c_more)
namespace Ms
theorem sm4 {a : Int} (h : a.natAbs < 2 ^ 4000) : sm a := Nat.lt_trans h (by decide +kernel)
theorem mul4 {a b : Int} (ha : a.natAbs < 2 ^ 4000) (hb : b.natAbs < 2 ^ 4000) : (a * b).natAbs < 2 ^ 8000 := by
  rw [Int.natAbs_mul]
  exact Nat.lt_of_lt_of_eq (Nat.mul_lt_mul'' ha hb) (by rw [← Nat.pow_add])
theorem sm8 {a : Int} (h : a.natAbs < 2 ^ 8000) : sm a := Nat.lt_trans h (by decide +kernel)
/-! more -/
theorem CV_more {S : Sto} {r : Rat} {u d : Int} {Q : D → Sto → Prop} (h0 : 0 ≤ r.num) (hu : 0 ≤ u) (hd : 0 < d) (h1 : r.num.natAbs < 2 ^ 4000) (h2 : r.den < 2 ^ 4000) (h3 : u.natAbs < 2 ^ 4000) (h4 : d.natAbs < 2 ^ 4000) (q : Q (R (r + mkRat u d.toNat)) S) : CV c_more [R r, .int u, .int d] S Q := by
  refine CV_plain rfl ?_
  unfold b_more R
  (simp_arith [])
  have hr := r.den_pos
  have k2 : (r.den : Int).natAbs < 2 ^ 4000 := by omega
  have a3 := mul4 k2 h4
  have p0 : 0 ≤ r.num * d + u * r.den := Int.add_nonneg (Int.mul_nonneg h0 (by omega)) (Int.mul_nonneg hu (by omega))
  have q0 : 0 < (r.den : Int) * d := Int.mul_pos (by omega) hd
  refine ⟨sm_mul (sm4 h1) (sm4 h4), sm_mul (sm4 h3) (sm4 k2), sm_mul (sm4 k2) (sm4 h4), rfl, ?_⟩
  rw [← R_add hd] at q
  generalize r.num * d + u * r.den = p at *
  generalize (r.den : Int) * d = w at *
  refine CV_common (ns := [p, w]) rfl (fun n hn => ?_) ?_
  · simp only [List.mem_cons, List.not_mem_nil, or_false] at hn
    rcases hn with rfl | rfl <;> omega
  · rw [gcdF_pair]
    (simp_arith [])
    have g2 := gcd_pos (p := p) q0
    have g3 := gcd_le (p := p) q0
    have s2 : sm (Int.gcd p w : Int) := Nat.lt_of_le_of_lt (by omega : _ ≤ w.natAbs) (sm8 a3)
    rw [if_neg (by omega)]
    refine ⟨sm_div s2 (by omega), sm_div s2 (by omega), rfl, ?_⟩
    rw [R_of q0]
    exact RtP_same rfl q
/-! what a row misses -/
def sq (ns : List Int) : Int := (ns.map fun n => n * n).sum
def upOf (full : Int) (ns : List Int) (i : Nat) : Int := full * full - 2 * full * ns.getD i 0 + sq ns
/-- the law's sum, from place j -/
def lsum (full : Int) (i : Nat) : Nat → List Int → Int
  | _, [] => 0
  | j, n :: ns => (full * (if j = i then 1 else 0) - n) * (full * (if j = i then 1 else 0) - n) + lsum full i (j + 1) ns
theorem lsum_gt {full : Int} {i : Nat} : ∀ (ns : List Int) (j : Nat), i < j → lsum full i j ns = sq ns
  | [], j, _ => rfl
  | n :: ns, j, h => by
    show _ + lsum full i (j + 1) ns = _
    rw [lsum_gt ns (j + 1) (by omega), if_neg (by omega)]
    show _ = n * n + sq ns
    grind
theorem lsum_eq {full : Int} {i : Nat} : ∀ (ns : List Int) (j : Nat), j ≤ i → i < j + ns.length → lsum full i j ns = upOf full ns (i - j)
  | [], j, h, h2 => by simp at h2; omega
  | n :: ns, j, h, h2 => by
    show _ + lsum full i (j + 1) ns = _
    by_cases e : j = i
    · subst e
      rw [lsum_gt ns (j + 1) (by omega), if_pos rfl, Nat.sub_self]
      show _ = full * full - 2 * full * n + (n * n + sq ns)
      grind
    · rw [lsum_eq ns (j + 1) (by omega) (by simp at h2; omega), if_neg e, show i - j = (i - (j + 1)) + 1 by omega]
      show _ + (full * full - 2 * full * ns.getD (i - (j + 1)) 0 + sq ns) = full * full - 2 * full * ns.getD (i - (j + 1)) 0 + (n * n + sq ns)
      grind
theorem sq_nonneg : ∀ ns : List Int, 0 ≤ sq ns
  | [] => by decide
  | n :: ns => by
    have := sq_nonneg ns
    have h2 : 0 ≤ n * n := by rcases Int.le_total 0 n with h | h; exact Int.mul_nonneg h h; exact Int.mul_nonneg_of_nonpos_of_nonpos h h
    show 0 ≤ n * n + sq ns
    omega
theorem lsum_nonneg {full : Int} {i : Nat} : ∀ (ns : List Int) (j : Nat), 0 ≤ lsum full i j ns
  | [], j => Int.le_refl _
  | n :: ns, j => by
    have := lsum_nonneg (full := full) (i := i) ns (j + 1)
    show 0 ≤ _ * _ + lsum full i (j + 1) ns
    generalize full * (if j = i then 1 else 0) - n = z
    have h2 : 0 ≤ z * z := by rcases Int.le_total 0 z with h | h; exact Int.mul_nonneg h h; exact Int.mul_nonneg_of_nonpos_of_nonpos h h
    omega
theorem sum_nonneg' : ∀ ns : List Int, (∀ n, n ∈ ns → 0 ≤ n) → 0 ≤ ns.sum
  | [], _ => by simp
  | n :: ns, h => by
    have := sum_nonneg' ns fun m hm => h m (List.mem_cons_of_mem _ hm)
    have := h n (List.mem_cons_self ..)
    rw [List.sum_cons]; omega
theorem sq_le : ∀ ns : List Int, (∀ n, n ∈ ns → 0 ≤ n) → sq ns ≤ ns.sum * ns.sum
  | [], _ => by decide
  | n :: ns, h => by
    have h1 := sq_le ns fun m hm => h m (List.mem_cons_of_mem _ hm)
    have h2 := h n (List.mem_cons_self ..)
    have h3 := sum_nonneg' ns fun m hm => h m (List.mem_cons_of_mem _ hm)
    have h4 := Int.mul_nonneg h2 h3
    show n * n + sq ns ≤ (n :: ns).sum * (n :: ns).sum
    rw [List.sum_cons]
    have : (n + ns.sum) * (n + ns.sum) = n * n + 2 * (n * ns.sum) + ns.sum * ns.sum := by grind
    omega
/-- a row that adds up to full -/
structure Row (full : Int) (ns : List Int) : Prop where
  pos : ∀ n, n ∈ ns → 0 ≤ n
  sum : ns.sum = full
  full0 : 0 < full
  full1 : full ≤ 3 * (10 ^ 12 + 8)
theorem Row.up {full : Int} {ns : List Int} (h : Row full ns) {i : Nat} (hi : i < ns.length) : 0 ≤ upOf full ns i ∧ upOf full ns i ≤ 2 * (full * full) ∧ 0 < full * full ∧ full * full ≤ 10 ^ 25 := by
  have h1 := lsum_eq (full := full) ns 0 (Nat.zero_le i) (by omega)
  have h2 := lsum_nonneg (full := full) (i := i) ns 0
  rw [h1, Nat.sub_zero] at h2
  refine ⟨h2, ?_, Int.mul_pos h.full0 h.full0, ?_⟩
  · have h3 := sq_le ns h.pos
    rw [h.sum] at h3
    have h4 : 0 ≤ ns.getD i 0 := by
      rw [List.getD_eq_getElem?_getD, List.getElem?_eq_getElem hi]
      exact h.pos _ (List.getElem_mem hi)
    have h5 := Int.mul_nonneg (Int.le_of_lt h.full0) h4
    unfold upOf
    have : 2 * full * ns.getD i 0 = 2 * (full * ns.getD i 0) := by grind
    omega
  · have := Int.mul_le_mul h.full1 h.full1 (Int.le_of_lt h.full0) (by decide)
    omega
theorem Row.mem {full : Int} {ns : List Int} (h : Row full ns) {n : Int} (hn : n ∈ ns) : n ≤ full := by
  rw [← h.sum]
  have : ∀ ns : List Int, (∀ n, n ∈ ns → 0 ≤ n) → ∀ n, n ∈ ns → n ≤ ns.sum := by
    intro ns
    induction ns with
    | nil => intro _ n h; exact nomatch h
    | cons m ns ih =>
      intro h n hn
      have h2 := sum_nonneg' ns fun m hm => h m (List.mem_cons_of_mem _ hm)
      have h3 := h m (List.mem_cons_self ..)
      rw [List.sum_cons]
      rcases List.mem_cons.mp hn with rfl | hn
      · omega
      · have := ih (fun m hm => h m (List.mem_cons_of_mem _ hm)) n hn
        omega
  exact this ns h.pos n hn
theorem CV_miss {S : Sto} {full : Int} {ns : List Int} {i : Nat} {Q : D → Sto → Prop} (h : Row full ns) (hi : i < ns.length) (hl : ns.length ≤ 1000) (q : Q (.tup [.int (upOf full ns i), .int (full * full)]) S) : CV c_miss [.tup (ns.map D.int), .int i] S Q := by
  refine CV_plain rfl ?_
  unfold b_miss
  (simp_arith [getD_at hi, h.sum])
  have f0 := h.full0
  have f1 := h.full1
  have sf : sm full := sm_le (10 ^ 100) (by omega)
  have s2 : sm (2 * full) := sm_le (10 ^ 100) (by omega)
  have hg : ns.getD i 0 ∈ ns := by rw [List.getD_eq_getElem?_getD, List.getElem?_eq_getElem hi]; exact List.getElem_mem hi
  have g1 := h.pos _ hg
  have g2 := h.mem hg
  refine ⟨sm_mul sf sf, sm_mul (sm_le 2 (by decide)) sf, sm_mul s2 (sm_le (10 ^ 100) (by omega)), ?_⟩
  refine (LV_map (fun d => match d with | .int n => .int (n * n) | d => d) (fun n _ => rfl) fun d K hd hK => ?_).lc fun out S2 q2 => ?_
  · obtain ⟨m, hm, rfl⟩ := List.mem_map.mp hd
    have := h.pos m hm
    have := h.mem hm
    (simp_arith [])
    exact ⟨sm_mul (sm_le (10 ^ 100) (by omega)) (sm_le (10 ^ 100) (by omega)), hK⟩
  · obtain ⟨rfl, rfl⟩ := q2
    have e : List.map (fun d => match d with | .int n => D.int (n * n) | d => d) (List.map D.int ns) = (ns.map fun n => n * n).map D.int := by rw [List.map_map, List.map_map]; rfl
    rw [e]
    refine ⟨sz_le (by simp; omega), ?_⟩
    (simp_arith [])
    exact ⟨sm_mul sf sf, rfl, RtP_same rfl q⟩
def ratOf (full : Int) (ns : List Int) (i : Nat) : Rat := mkRat (upOf full ns i) (full * full).toNat
/-! sums over rows -/
def rowD (p : List Int × Nat) : D := .tup [.tup (p.1.map D.int), .int p.2]
structure Rw1 (many : Int) (p : List Int × Nat) : Prop where
  len : (p.1.length : Int) = many
  pos : ∀ n, n ∈ p.1 → 0 ≤ n ∧ n ≤ 10 ^ 12 + 8
  some_ : ∃ n, n ∈ p.1 ∧ n ≠ 0
  sign : (p.2 : Int) < many
theorem Rw1.row {many : Int} {p : List Int × Nat} (h : Rw1 many p) (hm : many ≤ 3) : Row p.1.sum p.1 := by
  refine ⟨fun n hn => (h.pos n hn).1, rfl, ?_, ?_⟩
  · obtain ⟨n, hn, hz⟩ := h.some_
    have h1 := (h.pos n hn).1
    have : ∀ ns : List Int, (∀ n, n ∈ ns → 0 ≤ n) → ∀ n, n ∈ ns → n ≤ ns.sum := by
      intro ns
      induction ns with
      | nil => intro _ n h; exact nomatch h
      | cons m ns ih =>
        intro h n hn
        have h2 := sum_nonneg' ns fun m hm => h m (List.mem_cons_of_mem _ hm)
        have h3 := h m (List.mem_cons_self ..)
        rw [List.sum_cons]
        rcases List.mem_cons.mp hn with rfl | hn
        · omega
        · have := ih (fun m hm => h m (List.mem_cons_of_mem _ hm)) n hn
          omega
    have := this p.1 (fun n hn => (h.pos n hn).1) n hn
    omega
  · have h1 := sum_le3 h.pos
    have h2 := h.len
    have : (p.1.length : Int) * (10 ^ 12 + 8) ≤ 3 * (10 ^ 12 + 8) := Int.mul_le_mul_of_nonneg_right (by omega) (by decide)
    omega
theorem told_row {many : Int} {ns : List Int} (h : Told many ns) : Row 1000 ns := ⟨fun n hn => (h.2.1 n hn).1, h.2.2, by decide, by decide⟩
def fold (f : List Int × Nat → Rat) : Rat → List (List Int × Nat) → Rat
  | r, [] => r
  | r, p :: ps => fold f (r + f p) ps
theorem fold_add (f : List Int × Nat → Rat) : ∀ (ps : List (List Int × Nat)) (r : Rat), fold f r ps = r + fold f 0 ps
  | [], r => (Rat.add_zero r).symm
  | p :: ps, r => by
    show fold f (r + f p) ps = r + fold f (0 + f p) ps
    rw [fold_add f ps (r + f p), fold_add f ps (0 + f p), Rat.zero_add, Rat.add_assoc]
theorem fold_app (f : List Int × Nat → Rat) : ∀ (ps qs : List (List Int × Nat)) (r : Rat), fold f r (ps ++ qs) = fold f (fold f r ps) qs
  | [], qs, r => rfl
  | p :: ps, qs, r => fold_app f ps qs (r + f p)
/-- a sum of k fractions -/
structure Rb (k : Nat) (r : Rat) : Prop where
  num0 : 0 ≤ r.num
  num1 : r.num ≤ 2 * (k : Int) * r.den
  den : r.den ≤ 10 ^ (25 * k)
theorem Rb.zero : Rb 0 0 := ⟨by decide, by decide, by decide⟩
theorem Rb.step {k : Nat} {r : Rat} (h : Rb k r) {full : Int} {ns : List Int} {i : Nat} (hr : Row full ns) (hi : i < ns.length) : Rb (k + 1) (r + ratOf full ns i) := by
  obtain ⟨u1, u2, u3, u4⟩ := hr.up hi
  unfold ratOf
  rw [← R_add u3]
  have d0 := r.den_pos
  generalize upOf full ns i = u at *
  generalize hd : full * full = d at *
  have ed : (((r.den : Int) * d).toNat : Int) = r.den * d := Int.toNat_of_nonneg (Int.le_of_lt (Int.mul_pos (by omega) u3))
  have hz : ((r.den : Int) * d).toNat ≠ 0 := by
    have := Int.mul_pos (by omega : 0 < (r.den : Int)) u3
    omega
  have p0 : 0 ≤ r.num * d + u * r.den := Int.add_nonneg (Int.mul_nonneg h.num0 (by omega)) (Int.mul_nonneg u1 (by omega))
  obtain ⟨b1, b2, b3⟩ := mk_bound (p := r.num * d + u * r.den) (c := 2 * ((k + 1 : Nat) : Int)) hz p0 (by
    rw [ed]
    have h1 := Int.mul_le_mul_of_nonneg_right h.num1 (by omega : 0 ≤ d)
    have h2 := Int.mul_le_mul_of_nonneg_right u2 (by omega : 0 ≤ (r.den : Int))
    have e : 2 * ((k + 1 : Nat) : Int) * ((r.den : Int) * d) = 2 * (k : Int) * r.den * d + 2 * d * r.den := by rw [Int.natCast_add]; grind
    rw [e]
    exact Int.add_le_add h1 h2)
  refine ⟨b1, b2, Nat.le_trans b3 ?_⟩
  have e : ((r.den : Int) * d).toNat = r.den * d.toNat := by rw [Int.toNat_mul (by omega) (by omega)]; simp
  rw [e, show 25 * (k + 1) = 25 * k + 25 by omega, Nat.pow_add]
  exact Nat.mul_le_mul h.den (by omega)
theorem Rb.small {k : Nat} {r : Rat} (h : Rb k r) (hk : k ≤ 18) : r.num.natAbs < 10 ^ 460 ∧ r.den < 10 ^ 460 ∧ r.num.natAbs < 2 ^ 4000 ∧ r.den < 2 ^ 4000 := by
  have h1 : r.den ≤ 10 ^ 450 := Nat.le_trans h.den (Nat.pow_le_pow_right (by decide) (by omega))
  have h2 : 2 * (k : Int) * r.den ≤ 36 * 10 ^ 450 := by
    have : 2 * (k : Int) * r.den ≤ 36 * (r.den : Int) := Int.mul_le_mul_of_nonneg_right (by omega) (by omega)
    have : (r.den : Int) ≤ ((10 ^ 450 : Nat) : Int) := Int.ofNat_le.mpr h1
    have e : ((10 ^ 450 : Nat) : Int) = 10 ^ 450 := by rw [Int.natCast_pow]; rfl
    rw [e] at this
    omega
  have h3 := h.num1
  have h4 := h.num0
  have n1 : r.num ≤ 36 * 10 ^ 450 := Int.le_trans h3 h2
  have n2 : r.num.natAbs ≤ 36 * 10 ^ 450 := by
    have : ((36 * 10 ^ 450 : Nat) : Int) = 36 * 10 ^ 450 := by rw [Int.natCast_mul, Int.natCast_pow]; rfl
    omega
  exact ⟨Nat.lt_of_le_of_lt n2 (by decide +kernel), Nat.lt_of_le_of_lt h1 (by decide +kernel), Nat.lt_of_le_of_lt n2 (by decide +kernel), Nat.lt_of_le_of_lt h1 (by decide +kernel)⟩
theorem small_up {full : Int} {ns : List Int} {i : Nat} (hr : Row full ns) (hi : i < ns.length) : (upOf full ns i).natAbs < 2 ^ 4000 ∧ (full * full).natAbs < 2 ^ 4000 ∧ (ratOf full ns i).num.natAbs < 2 ^ 4000 ∧ (ratOf full ns i).den < 2 ^ 4000 := by
  obtain ⟨u1, u2, u3, u4⟩ := hr.up hi
  have hz : (full * full).toNat ≠ 0 := by omega
  obtain ⟨b1, b2, b3⟩ := mk_bound (p := upOf full ns i) (d := (full * full).toNat) (c := 2) hz u1 (by omega)
  have w : ∀ {a : Nat}, a ≤ 10 ^ 30 → a < 2 ^ 4000 := fun {a} h => Nat.lt_of_le_of_lt h (by decide +kernel)
  unfold ratOf
  exact ⟨w (by omega), w (by omega), w (by omega), w (by omega)⟩
def misOf (rows : List (List Int × Nat)) : Rat := fold (fun p => ratOf p.1.sum p.1 p.2) 0 rows
def rivOf (told : List Int) (rows : List (List Int × Nat)) : Rat := fold (fun p => ratOf 1000 told p.2) 0 rows
theorem R_zero : (D.tup [.int 0, .int 1]) = R 0 := rfl
theorem CV_misses {S : Sto} {many : Int} {rows : List (List Int × Nat)} {Q : D → Sto → Prop} (hm : many ≤ 3) (h : ∀ p, p ∈ rows → Rw1 many p) (hl : rows.length ≤ 18) (q : Rb rows.length (misOf rows) → Q (R (misOf rows)) S) : CV c_misses [.tup (rows.map rowD), .int many] S Q := by
  refine CV_plain rfl ?_
  unfold b_misses
  (simp_arith [R_zero])
  refine ⟨rfl, ?_⟩
  refine SV_forI (fun r e S' => ∃ (ps : List (List Int × Nat)) (a : Rat) (k : Nat) (x y z w : Option D), r = ps.map rowD ∧ (∀ p, p ∈ ps → Rw1 many p) ∧ Rb k a ∧ k + ps.length = rows.length ∧ fold (fun p => ratOf p.1.sum p.1 p.2) a ps = misOf rows ∧ e = [some (.tup (rows.map rowD)), some (.int many), some (R a), x, y, z, w] ∧ S' = S) ⟨rows, 0, 0, none, none, none, none, rfl, h, Rb.zero, by omega, rfl, rfl, rfl⟩ ?_ ?_
  · rintro d r e S' K ⟨ps, a, k, x, y, z, w, h1, h2, h3, h4, h5, rfl, rfl⟩ hK
    cases ps with
    | nil => cases h1
    | cons p ps =>
      cases h1
      have hp := h2 p (List.mem_cons_self ..)
      have hr := hp.row hm
      have hi : p.2 < p.1.length := by have := hp.len; have := hp.sign; omega
      obtain ⟨u1, u2, u3, u4⟩ := hr.up hi
      obtain ⟨s1, s2, _, _⟩ := small_up hr hi
      obtain ⟨_, _, t1, t2⟩ := h3.small (by simp at h4; omega)
      unfold rowD
      (simp_arith [])
      refine CV_miss hr hi (by have := hp.len; omega) ?_
      (simp_arith [])
      refine CV_more h3.num0 u1 u3 t1 t2 s1 s2 ?_
      refine ⟨(fun n hn => nomatch hn), hK _ _ ⟨ps, _, k + 1, _, _, _, _, rfl, fun p hp => h2 p (List.mem_cons_of_mem _ hp), h3.step hr hi, by simp at h4; omega, h5, rfl, rfl⟩⟩
  · rintro e S' ⟨ps, a, k, x, y, z, w, h1, h2, h3, h4, h5, rfl, rfl⟩
    cases ps with
    | cons m ms => cases h1
    | nil =>
      have h5 : a = misOf rows := h5
      have h4 : k = rows.length := h4
      subst h5 h4
      (simp_arith [])
      exact RtP_same rfl (q h3)
theorem CV_rmisses {S : Sto} {many : Int} {told : List Int} {rows : List (List Int × Nat)} {Q : D → Sto → Prop} (ht : Told many told) (hm : many ≤ 3) (h : ∀ p, p ∈ rows → Rw1 many p) (hl : rows.length ≤ 18) (q : Rb rows.length (rivOf told rows) → Q (R (rivOf told rows)) S) : CV c_rival_misses [.tup (rows.map rowD), .tup (told.map D.int)] S Q := by
  refine CV_plain rfl ?_
  unfold b_rival_misses
  (simp_arith [R_zero])
  refine ⟨rfl, ?_⟩
  have hr := told_row ht
  refine SV_forI (fun r e S' => ∃ (ps : List (List Int × Nat)) (a : Rat) (k : Nat) (x y z w : Option D), r = ps.map rowD ∧ (∀ p, p ∈ ps → Rw1 many p) ∧ Rb k a ∧ k + ps.length = rows.length ∧ fold (fun p => ratOf 1000 told p.2) a ps = rivOf told rows ∧ e = [some (.tup (rows.map rowD)), some (.tup (told.map D.int)), some (R a), x, y, z, w] ∧ S' = S) ⟨rows, 0, 0, none, none, none, none, rfl, h, Rb.zero, by omega, rfl, rfl, rfl⟩ ?_ ?_
  · rintro d r e S' K ⟨ps, a, k, x, y, z, w, h1, h2, h3, h4, h5, rfl, rfl⟩ hK
    cases ps with
    | nil => cases h1
    | cons p ps =>
      cases h1
      have hp := h2 p (List.mem_cons_self ..)
      have hi : p.2 < told.length := by have := ht.1; have := hp.sign; omega
      obtain ⟨u1, u2, u3, u4⟩ := hr.up hi
      obtain ⟨s1, s2, _, _⟩ := small_up hr hi
      obtain ⟨_, _, t1, t2⟩ := h3.small (by simp at h4; omega)
      unfold rowD
      (simp_arith [])
      refine CV_miss hr hi (by have := ht.1; omega) ?_
      (simp_arith [])
      refine CV_more h3.num0 u1 u3 t1 t2 s1 s2 ?_
      refine ⟨(fun n hn => nomatch hn), hK _ _ ⟨ps, _, k + 1, _, _, _, _, rfl, fun p hp => h2 p (List.mem_cons_of_mem _ hp), h3.step hr hi, by simp at h4; omega, h5, rfl, rfl⟩⟩
  · rintro e S' ⟨ps, a, k, x, y, z, w, h1, h2, h3, h4, h5, rfl, rfl⟩
    cases ps with
    | cons m ms => cases h1
    | nil =>
      have h5 : a = rivOf told rows := h5
      have h4 : k = rows.length := h4
      subst h5 h4
      (simp_arith [])
      exact RtP_same rfl (q h3)
end Ms
end Pv
set_option Elab.async false
set_option linter.all false
set_option maxRecDepth 100000
set_option maxHeartbeats 0
namespace Pv
open PySem PySem.Spec PyProof.Rows L2
/-! the shelf's doubters: that they are some, their bounds, their data -/
theorem maxL_eq {ns : List Int} {w : Int} (hw : w ∈ ns) (hb : ∀ n, n ∈ ns → n ≤ w) : maxL ns = w := by
  have h0 : 0 < ns.length := List.length_pos_of_mem hw
  obtain ⟨h1, h2⟩ := maxL_mem h0
  have := hb _ h1
  have := h2 _ hw
  omega
theorem tnt_sp {s : Nat} {c w side : Int} (c0 : 0 ≤ c) (c1 : c ≤ 1000) (w0 : 1 ≤ w) (w1 : w ≤ 500) (hs : side = 1 ∨ side = -1) : sp (tntX s c w side) = (if side = 1 then (0, w) else (-w, 0)) := by
  have e : sp (.mst (.fig 0) (.lst (.fig w) (.les (.fig w) (.mst (.les (.shr s) (.fig c)) (.les (.fig c) (.shr s)))))) = (0, w) := by
    simp only [sp]
    refine Prod.ext ?_ ?_
    · simp only
      repeat' split
      all_goals omega
    · simp only
      repeat' split
      all_goals omega
  unfold tntX
  rcases hs with rfl | rfl
  · rw [if_pos rfl, if_pos rfl]; exact e
  · rw [if_neg (by decide), if_neg (by decide)]
    have e2 : ∀ x : Xp, sp x = (0, w) → sp (.tim (-1) x) = (-w, 0) := fun x hx => by
      simp only [sp, hx]
      refine Prod.ext ?_ ?_
      · simp only
        split <;> omega
      · simp only
        split <;> omega
    exact e2 _ e
theorem tnt_ok {many s : Nat} {c w side : Int} (hm : many = 2 ∨ many = 3) (hs : s < many) (c0 : 0 ≤ c) (c1 : c ≤ 1000) (w0 : 1 ≤ w) (w1 : w ≤ 500) (hd : side = 1 ∨ side = -1) : DbG many (tnt many s c w side) ∧ bnd (tnt many s c w side) = w ∧ ((tnt many s c w side).stakes.map fun e => (ct e).2).sum ≤ 6 ∧ (∀ e, e ∈ (tnt many s c w side).stakes → exOk many e ∧ lev e ≤ 6 ∧ szX e ≤ 40 ∧ ∀ rs, wmT rs e true = []) := by
  have hx : ∀ e, e ∈ (tnt many s c w side).stakes → e = .fig 0 ∨ e = tntX s c w side := by
    intro e he
    obtain ⟨i, hi, rfl⟩ := List.mem_map.mp he
    unfold onS
    split
    · exact .inr rfl
    · exact .inl rfl
  have hy : exOk many (tntX s c w side) ∧ lev (tntX s c w side) ≤ 6 ∧ szX (tntX s c w side) ≤ 40 ∧ (∀ rs, wmT rs (tntX s c w side) true = []) ∧ (ct (tntX s c w side)).2 = 6 := by
    have n1 : exOk many (.mst (.fig 0) (.lst (.fig w) (.les (.fig w) (.mst (.les (.shr s) (.fig c)) (.les (.fig c) (.shr s)))))) := ⟨⟨by decide, by decide⟩, ⟨by omega, by omega⟩, ⟨by omega, by omega⟩, ⟨hs, by omega, by omega⟩, ⟨by omega, by omega⟩, hs⟩
    rcases hd with rfl | rfl
    · exact ⟨n1, Nat.le_of_ble_eq_true rfl, Nat.le_of_ble_eq_true rfl, fun _ => rfl, rfl⟩
    · exact ⟨⟨by decide, by decide, n1⟩, Nat.le_of_ble_eq_true rfl, Nat.le_of_ble_eq_true rfl, fun _ => rfl, rfl⟩
  have sp1 := tnt_sp (s := s) c0 c1 w0 w1 hd
  have l1 : (tnt many s c w side).stakes.length = many := by simp [tnt]
  have mem : tntX s c w side ∈ (tnt many s c w side).stakes := List.mem_map.mpr ⟨s, List.mem_range.mpr hs, if_pos rfl⟩
  refine ⟨⟨by show nameOk "tent" = true; decide +kernel, Nat.le_of_ble_eq_true rfl, rfl, ?_, l1, ?_, by simp [tnt], ?_⟩, ?_, ?_, ?_⟩
  · intro r hr
    simp [tnt] at hr
    omega
  · intro e he
    rcases hx e he with rfl | rfl
    · exact ⟨⟨by decide, by decide⟩, by decide, by decide, by show -(500 * 2 ^ 0) ≤ (0 : Int); decide, by show (0 : Int) ≤ 500 * 2 ^ 0; decide⟩
    · refine ⟨hy.1, by omega, hy.2.2.1, ?_, ?_⟩
      · show -(500 * 2 ^ 0) ≤ _
        rw [sp1]
        rcases hd with rfl | rfl
        · show -(500 * 2 ^ 0) ≤ (0 : Int); decide
        · show -(500 * 2 ^ 0) ≤ -w; omega
      · show _ ≤ (500 * 2 ^ 0 : Int)
        rw [sp1]
        rcases hd with rfl | rfl
        · show w ≤ 500 * 2 ^ 0; omega
        · show (0 : Int) ≤ 500 * 2 ^ 0; decide
  · intro x hx
    rw [List.eq_of_mem_replicate hx]
    exact ⟨trivial, Nat.zero_le _, Nat.zero_le _⟩
  · have em : maxL (ends (tnt many s c w side)) = w := by
      refine maxL_eq ?_ ?_
      · unfold ends
        refine List.mem_flatten.mpr ⟨_, List.mem_map.mpr ⟨_, mem, rfl⟩, ?_⟩
        rw [sp1]
        rcases hd with rfl | rfl
        · show w ∈ [absI 0, absI w]
          have : absI w = w := by unfold absI; rw [if_neg (by omega)]
          rw [this]; simp
        · show w ∈ [absI (-w), absI 0]
          have : absI (-w) = w := by unfold absI; rw [if_pos (by omega)]; omega
          rw [this]; simp
      · intro k hk
        unfold ends at hk
        obtain ⟨l, hl, hk⟩ := List.mem_flatten.mp hk
        obtain ⟨e, he, rfl⟩ := List.mem_map.mp hl
        rcases hx e he with rfl | rfl
        · have hk : k ∈ [absI 0, absI 0] := hk
          simp [absI] at hk
          omega
        · rw [sp1] at hk
          rcases hd with rfl | rfl
          · have hk : k ∈ [absI 0, absI w] := hk
            simp [absI] at hk
            rcases hk with rfl | rfl
            · omega
            · split <;> omega
          · have hk : k ∈ [absI (-w), absI 0] := hk
            simp [absI] at hk
            rcases hk with rfl | rfl
            · split <;> omega
            · omega
    unfold bnd
    rw [em]
    have e2 : (-w).fdiv (2 ^ (tnt many s c w side).scale) = -w := by show (-w).fdiv 1 = -w; rw [Int.fdiv_eq_ediv_of_nonneg _ (by decide)]; omega
    rw [e2]
    split <;> omega
  · have e0 : ∀ l : List Nat, s ∉ l → ((l.map (onS s (tntX s c w side))).map fun e => (ct e).2).sum = 0 := by
      intro l
      induction l with
      | nil => intro _; rfl
      | cons i l ih =>
        intro h
        simp only [List.mem_cons, not_or] at h
        rw [List.map_cons, List.map_cons, List.sum_cons, ih h.2]
        unfold onS
        rw [if_neg (fun z => h.1 z.symm)]
        rfl
    have e1 : ∀ l : List Nat, l.Nodup → ((l.map (onS s (tntX s c w side))).map fun e => (ct e).2).sum ≤ 6 := by
      intro l
      induction l with
      | nil => intro _; show (0 : Int) ≤ 6; decide
      | cons i l ih =>
        intro h
        obtain ⟨h1, h2⟩ := List.nodup_cons.mp h
        rw [List.map_cons, List.map_cons, List.sum_cons]
        by_cases hi : i = s
        · subst hi
          rw [e0 l h1]
          unfold onS
          rw [if_pos rfl, hy.2.2.2.2]
          decide
        · have := ih h2
          have z : (ct (onS s (tntX s c w side) i)).2 = 0 := by unfold onS; rw [if_neg hi]; rfl
          rw [z]
          omega
    exact e1 _ List.nodup_range
  · intro e he
    rcases hx e he with rfl | rfl
    · exact ⟨⟨by decide, by decide⟩, by decide, by decide, fun _ => rfl⟩
    · exact ⟨hy.1, hy.2.1, hy.2.2.1, hy.2.2.2.1⟩
theorem byS_ok {many : Nat} (hm : many = 2 ∨ many = 3) : ∀ e, e ∈ byS many → exOk many e ∧ lev e ≤ 1 ∧ szX e ≤ 40 ∧ sp e = (-2000, 1000) ∧ ct e = (1, 0) ∧ ∀ rs, wmT rs e true = [] := by
  intro e he
  obtain ⟨i, hi, rfl⟩ := List.mem_map.mp he
  have hi := List.mem_range.mp hi
  exact ⟨⟨(by omega : i < 4), hi⟩, Nat.le_of_ble_eq_true rfl, Nat.le_of_ble_eq_true rfl, rfl, rfl, fun _ => rfl⟩
/-- a doubter told by registers -/
structure Sh (many : Nat) (d : Dbt) : Prop where
  nm : nameOk d.name = true ∧ shortB 13 (.str d.name) = true ∧ okD (.str d.name) = true
  sc : d.scale = 4
  rg : Rg d.rs
  st : d.stakes = byS many
  dl : d.deeds.length = many
  de : ∀ x, x ∈ d.deeds → deOkL many x ∧ dnstL x ≤ 1 ∧ dcntL x ≤ 20 ∧ DatL 3 90 (deL x)
theorem Sh.G {many : Nat} {d : Dbt} (h : Sh many d) (hm : many = 2 ∨ many = 3) : DbG many d := by
  refine ⟨h.nm.1, by rw [h.sc]; decide, h.rg.1, h.rg.2, by rw [h.st]; simp [byS], fun e he => ?_, h.dl, fun x hx => ?_⟩
  · rw [h.st] at he
    obtain ⟨h1, h2, h3, h4, _⟩ := byS_ok hm e he
    rw [h.sc, h4]
    exact ⟨h1, by omega, h3, by decide, by decide⟩
  · obtain ⟨h1, h2, h3, _⟩ := h.de x hx
    exact ⟨h1, by omega, h3⟩
theorem Sh.bnd {many : Nat} {d : Dbt} (h : Sh many d) (hm : many = 2 ∨ many = 3) : bnd d = 125 := by
  have e : Pv.bnd d = Pv.bnd ⟨"", 4, [], byS many, []⟩ := by unfold Pv.bnd ends; rw [h.st, h.sc]
  rw [e]
  rcases hm with rfl | rfl <;> decide +kernel
theorem Sh.lines {many : Nat} {d : Dbt} (h : Sh many d) (hm : many = 2 ∨ many = 3) : (d.stakes.map fun e => (ct e).2).sum = 0 := by
  rw [h.st]
  rcases hm with rfl | rfl <;> decide +kernel
theorem Sh.dat {many : Nat} {d : Dbt} (h : Sh many d) (hm : many = 2 ∨ many = 3) : Dat 7 2000 (dbD d) :=
  (Dbt.dat (l := 1) (many := many) (by omega) h.nm.2 (by rw [h.sc]; decide) h.rg.1 h.rg.2 (h.G hm).sl (fun e he => by rw [h.st] at he; exact ⟨(byS_ok hm e he).1, (byS_ok hm e he).2.1⟩) h.dl fun x hx => (h.de x hx).2.2.2).mono (by decide) (by decide)
/-- what is behind a day -/
structure Bh (many : Nat) (d : Dbt) (lags : Bool) : Prop where
  no : lags = false → ∀ x, x ∈ d.deeds → x = []
  ye : lags = true → ∀ x, x ∈ d.deeds → x = (List.range many).map fun i => De.tld i i
theorem riv_ok {many : Nat} {ns : List Int} (hm : many = 2 ∨ many = 3) (h : Told many ns) : Sh many (riv many ns) ∧ Bh many (riv many ns) false := by
  obtain ⟨h1, h2, h3⟩ := h
  refine ⟨⟨⟨by show nameOk "rival" = true; decide +kernel, by show shortB 13 (.str "rival") = true; decide +kernel, by show okD (.str "rival") = true; decide +kernel⟩, rfl, ⟨?_, ?_⟩, rfl, by simp [riv], ?_⟩, ⟨fun _ x hx => List.eq_of_mem_replicate hx, (fun h => nomatch h)⟩⟩
  · show (ns ++ List.replicate (4 - many) 0).length = 4
    rw [List.length_append, List.length_replicate]
    omega
  · intro r hr
    rcases List.mem_append.mp hr with hr | hr
    · have := h2 r hr
      omega
    · rw [List.eq_of_mem_replicate hr]; decide
  · intro x hx
    rw [List.eq_of_mem_replicate hx]
    exact ⟨trivial, Nat.zero_le _, Nat.zero_le _, DatL.nil.mono (Nat.le_refl _) (Nat.zero_le _)⟩
theorem lag_ok {many : Nat} (hm : many = 2 ∨ many = 3) : Sh many (lag many) ∧ Bh many (lag many) true := by
  have e : ∀ x, x ∈ (lag many).deeds → x = (List.range many).map fun i => De.tld i i := fun x hx => List.eq_of_mem_replicate hx
  refine ⟨⟨⟨by show nameOk "lagging" = true; decide +kernel, by show shortB 13 (.str "lagging") = true; decide +kernel, by show okD (.str "lagging") = true; decide +kernel⟩, rfl, ⟨rfl, ?_⟩, rfl, by simp [lag], ?_⟩, ⟨(fun h => nomatch h), fun _ => e⟩⟩
  · intro r hr
    simp [lag] at hr
    omega
  · intro x hx
    rw [e x hx]
    have d1 : ∀ i : Nat, i < 4 → Dat 1 6 (deD (.tld i i)) := fun i hi => Dat.deed (by decide +kernel) (by decide +kernel) (by omega) (by omega)
    rcases hm with rfl | rfl
    · exact ⟨⟨⟨by decide, by decide⟩, ⟨by decide, by decide⟩, trivial⟩, by decide, by decide, (DatL.cons (d1 0 (by decide)) (DatL.cons (d1 1 (by decide)) DatL.nil)).mono (by decide) (by decide)⟩
    · exact ⟨⟨⟨by decide, by decide⟩, ⟨by decide, by decide⟩, ⟨by decide, by decide⟩, trivial⟩, by decide, by decide, (DatL.cons (d1 0 (by decide)) (DatL.cons (d1 1 (by decide)) (DatL.cons (d1 2 (by decide)) DatL.nil))).mono (by decide) (by decide)⟩
theorem aft_ok {many s t : Nat} {side : Int} (hm : many = 2 ∨ many = 3) (ht : t < many) (hs : side = 1 ∨ side = -1) : DbG many (aft many s t side) ∧ bnd (aft many s t side) = 100 ∧ ((aft many s t side).stakes.map fun e => (ct e).2).sum = 0 ∧ (∀ e, e ∈ (aft many s t side).stakes → exOk many e ∧ lev e ≤ 1 ∧ szX e ≤ 40 ∧ ∀ rs, wmT rs e true = []) ∧ (∀ x, x ∈ (aft many s t side).deeds → deOkL many x ∧ dnstL x ≤ 1 ∧ DatL 3 90 (deL x)) := by
  have hx : ∀ e, e ∈ (aft many s t side).stakes → e = .fig 0 ∨ e = .whn 0 1 (.fig 0) (.fig (side * 100)) := by
    intro e he
    obtain ⟨i, hi, rfl⟩ := List.mem_map.mp he
    unfold onS
    split
    · exact .inr rfl
    · exact .inl rfl
  have hd : ∀ x, x ∈ (aft many s t side).deeds → ∃ f : Int, 0 ≤ f ∧ f ≤ 1 ∧ x = [.put 0 f] := by
    intro x hx
    obtain ⟨i, hi, rfl⟩ := List.mem_map.mp hx
    exact ⟨_, by split <;> omega, by split <;> omega, rfl⟩
  have l1 : (aft many s t side).stakes.length = many := by simp [aft]
  have l2 : (aft many s t side).deeds.length = many := by simp [aft]
  refine ⟨⟨by show nameOk "after" = true; decide +kernel, Nat.le_of_ble_eq_true rfl, rfl, ?_, l1, ?_, l2, ?_⟩, ?_, ?_, ?_, ?_⟩
  · intro r hr
    simp [aft] at hr
    omega
  · intro e he
    rcases hx e he with rfl | rfl
    · exact ⟨⟨by decide, by decide⟩, by decide, by decide, by show -(500 * 2 ^ 0) ≤ (0 : Int); decide, by show (0 : Int) ≤ 500 * 2 ^ 0; decide⟩
    · rcases hs with rfl | rfl <;> exact ⟨⟨by decide, by decide, by decide, ⟨by decide, by decide⟩, by decide, by decide⟩, by decide, by decide, (show -(500 * 2 ^ 0) ≤ (sp (.whn 0 1 (.fig 0) (.fig _))).1 by decide), (show (sp (.whn 0 1 (.fig 0) (.fig _))).2 ≤ 500 * 2 ^ 0 by decide)⟩
  · intro x hx
    obtain ⟨f, f0, f1, rfl⟩ := hd x hx
    exact ⟨⟨⟨by decide, by omega, by omega⟩, trivial⟩, Nat.le_of_ble_eq_true rfl, Nat.le_of_ble_eq_true rfl⟩
  · have eb : bnd (aft many s t side) = bnd (aft many 0 t side) := rfl
    rw [eb]
    rcases hm with rfl | rfl <;> rcases hs with rfl | rfl
    · have : t = 0 ∨ t = 1 := by omega
      rcases this with rfl | rfl <;> decide +kernel
    · have : t = 0 ∨ t = 1 := by omega
      rcases this with rfl | rfl <;> decide +kernel
    · have : t = 0 ∨ t = 1 ∨ t = 2 := by omega
      rcases this with rfl | rfl | rfl <;> decide +kernel
    · have : t = 0 ∨ t = 1 ∨ t = 2 := by omega
      rcases this with rfl | rfl | rfl <;> decide +kernel
  · have : ∀ l : List Xp, (∀ e, e ∈ l → e = .fig 0 ∨ e = .whn 0 1 (.fig 0) (.fig (side * 100))) → (l.map fun e => (ct e).2).sum = 0 := by
      intro l
      induction l with
      | nil => intro _; rfl
      | cons e l ih =>
        intro h
        rw [List.map_cons, List.sum_cons, ih fun e he => h e (List.mem_cons_of_mem _ he)]
        rcases h e (List.mem_cons_self ..) with rfl | rfl <;> rfl
    exact this _ hx
  · intro e he
    rcases hx e he with rfl | rfl
    · exact ⟨⟨by decide, by decide⟩, by decide, by decide, fun _ => rfl⟩
    · refine ⟨⟨by decide, by decide, by decide, ⟨by decide, by decide⟩, ?_⟩, Nat.le_of_ble_eq_true rfl, Nat.le_of_ble_eq_true rfl, fun _ => rfl⟩
      rcases hs with rfl | rfl <;> exact ⟨by decide, by decide⟩
  · intro x hx
    obtain ⟨f, f0, f1, rfl⟩ := hd x hx
    refine ⟨⟨⟨by decide, by omega, by omega⟩, trivial⟩, Nat.le_of_ble_eq_true rfl, ?_⟩
    exact (DatL.cons (Dat.deed (by decide +kernel) (by decide +kernel) (by decide) (by omega)) DatL.nil).mono (by omega) (by omega)
theorem aft_dat {many s t : Nat} {side : Int} (hm : many = 2 ∨ many = 3) (ht : t < many) (hs : side = 1 ∨ side = -1) : Dat 7 2000 (dbD (aft many s t side)) := by
  obtain ⟨g, _, _, h1, h2⟩ := aft_ok (s := s) hm ht hs
  refine (Dbt.dat (l := 1) (many := many) (by omega) ⟨by show shortB 13 (.str "after") = true; decide +kernel, by show okD (.str "after") = true; decide +kernel⟩ g.sc g.rl g.rb g.sl (fun e he => ⟨(h1 e he).1, (h1 e he).2.1⟩) g.dl fun x hx => (h2 x hx).2.2).mono (by decide) (by decide)
theorem tnt_dat {many s : Nat} {c w side : Int} (hm : many = 2 ∨ many = 3) (hs : s < many) (c0 : 0 ≤ c) (c1 : c ≤ 1000) (w0 : 1 ≤ w) (w1 : w ≤ 500) (hd : side = 1 ∨ side = -1) : Dat 12 (3 * Cn 6 + 300) (dbD (tnt many s c w side)) := by
  obtain ⟨g, g1, g2, g3⟩ := tnt_ok (c := c) (w := w) (side := side) hm hs c0 c1 w0 w1 hd
  exact Dbt.dat (many := many) (by omega) ⟨by show shortB 13 (.str "tent") = true; decide +kernel, by show okD (.str "tent") = true; decide +kernel⟩ g.sc g.rl g.rb g.sl (fun e he => ⟨(g3 e he).1, (g3 e he).2.1⟩) g.dl fun x hx => by rw [List.eq_of_mem_replicate hx]; exact DatL.nil.mono (Nat.le_refl _) (Nat.zero_le _)
theorem DbG.one {many : Nat} {d : Dbt} (g : DbG many d) (h0 : 0 < many) (h1 : many ≤ 1000) : OneG many d := ⟨g.sc, by rw [g.sl]; exact h0, by rw [g.sl]; exact h1, fun e he => ⟨(g.st e he).1, by have := (g.st e he).2.1; omega⟩, fun e he => (g.st e he).2.2.2⟩
end Pv
set_option Elab.async false
set_option linter.all false
set_option maxRecDepth 100000
set_option maxHeartbeats 1000000
namespace Pv
open PySem PySem.Spec PyProof.Rows L2
/-! zip of a tuple and a list -/
def ItzN (K : PySem.W.Frag) (a b : Addr) (n : Nat) : It where
  go i H := ∃ (us ws : List V) (p q : V), SqT K H a us ∧ SqL K H b ws ∧ us[i]? = some p ∧ ws[i]? = some q ∧ min us.length ws.length = n
  yld i H v H' := ∃ T p q, v = .ref T ∧ H T = none ∧ H' = upd H T (.tup [p, q]) ∧ (∀ us, SqT K H a us → us[i]? = some p) ∧ ∀ ws, SqL K H b ws → ws[i]? = some q
  stop i H := n ≤ i ∧ ∃ us ws : List V, SqT K H a us ∧ SqL K H b ws ∧ min us.length ws.length = n
def znSt (z TI TO j1 j2 a b : Addr) (n i : Nat) (h : Heap) : Prop := i ≤ n ∧ IsZip h z TI TO .none ∧ IsTupOf2 h TI (.ref j1) (.ref j2) ∧ (∃ p q, IsTupOf2 h TO p q) ∧ h.IsTupleIter j1 a i ∧ h.IsListIter j2 b i
theorem turn_zipN {P : Program} {w : World} {K : PySem.W.Frag} {elts : List Expr} {kk n : Nat} {tp : Pos} {a b z TI TO j1 j2 : Addr} (S : ZipSep2 z TI TO j1 j2 [j1, a] [j2, b]) (na : a ≠ j1) (nb : b ≠ j2) :
    Turn P w K (.Tuple elts kk tp) (ItzN K a b n) [z, TI, TO, j1, j2] z (znSt z TI TO j1 j2 a b n) where
  mem := List.mem_cons_self ..
  obj := fun i h st c hc => by
    obtain ⟨_, g1, g2, ⟨_, _, g3⟩, ⟨o1, g4, _, g5⟩, ⟨o2, g6, _, g7⟩⟩ := st
    simp only [List.mem_cons, List.not_mem_nil, or_false] at hc
    rcases hc with rfl | rfl | rfl | rfl | rfl
    · exact ⟨_, g1, fun v y => nomatch y⟩
    · exact ⟨_, g2, fun v y => nomatch y⟩
    · exact ⟨_, g3, fun v y => nomatch y⟩
    · exact ⟨o1, g4, fun v y => by rw [g5] at y; cases y⟩
    · exact ⟨o2, g6, fun v y => by rw [g7] at y; cases y⟩
  keep := fun i h h' st k => by
    obtain ⟨g0, g1, g2, ⟨p, q, g3⟩, g4, g5⟩ := st
    have k1 : ∀ c o, c ∈ [z, TI, TO, j1, j2] → h.get? c = some o → h'.get? c = some o := fun c o hc => k c hc o
    exact ⟨g0, k1 _ _ (by simp) g1, k1 _ _ (by simp) g2, ⟨p, q, k1 _ _ (by simp) g3⟩, g4.at fun o y => k1 _ o (by simp) y, g5.at fun o y => k1 _ o (by simp) y⟩
  item := by
    intro X eP ew eK hc i pins s σ H E I fp st hg
    subst eP ew eK
    obtain ⟨_, g1, g2, g3, g4, g5⟩ := st
    obtain ⟨us, ws, p, q, s1, s2, at1, at2, hn⟩ := hg
    obtain ⟨its, r1, l1, _⟩ := I.tuple s1
    obtain ⟨jts, r2, l2, _⟩ := I.list s2
    have len1 := r1.length
    have len2 := r2.length
    have lt1 := (List.getElem?_eq_some_iff.mp at1).1
    have lt2 := (List.getElem?_eq_some_iff.mp at2).1
    have W := GoesN.zip2 (prog := X.prog) (w := X.w) (A := X.A) (elts := elts) (x1 := kk) (pos := tp) S (Draws.tuple (prog := X.prog) (w := X.w) (A := X.A.in1) (I.ok.hd hc) j1 a na its.toArray) (Draws.list (prog := X.prog) (w := X.w) (A := X.A.in1) (I.ok.hd hc) j2 b nb jts.toArray)
    refine W.goes i s _ _ (by simp; omega) ⟨g1, g2, g3, ⟨g4, l1⟩, ⟨g5, l2.isList⟩⟩ fun v h' tk y st' kk' _ => ?_
    obtain ⟨T, x1, x2, rfl, hT, y1, y2, hTup⟩ := y
    obtain ⟨v1, e1, rv1⟩ := r1.get at1
    obtain ⟨v2, e2, rv2⟩ := r2.get at2
    have q1 : x1 = v1 := Option.some.inj (y1.symm.trans (by simpa using e1))
    have q2 : x2 = v2 := Option.some.inj (y2.symm.trans (by simpa using e2))
    subst q1 q2
    have fresh : H T = none := I.hok.fresh hT
    have hold : ∀ c o, c ∉ [z, TI, TO, j1, j2] → s.heap.get? c = some o → h'.get? c = some o := fun c o hcm => kk' c o fun hm => hcm (by
      simp only [List.mem_cons, List.not_mem_nil, or_false] at hm ⊢
      rcases hm with e | e | e | e
      · exact .inl e
      · exact .inr (.inr (.inl e))
      · exact .inr (.inr (.inr (.inl e)))
      · exact .inr (.inr (.inr (.inr e))))
    have two : ObjOk X.prog X.w (upd H T (.tup [p, q])) h' T (.tup [p, q]) := ⟨(by decide : 2 ≤ sizeLine), [x1, x2], .cons rv1 (.cons rv2 .nil), hTup⟩
    have J := I.turnedNew (t' := tk) hold fp hT two
    obtain ⟨k1, k2, k3, ⟨k4, _⟩, ⟨k5, _⟩⟩ := st'
    refine ⟨.ref T, _, J, rfl, ⟨T, p, q, rfl, fresh, rfl, fun l hl => (I.tuple_inj hl s1) ▸ at1, fun l hl => (I.list_inj hl s2) ▸ at2⟩, ⟨by omega, k1, k2, k3, k4, k5⟩, fun c hcm => ?_⟩
    have ne : c ≠ T := fun e => by
      obtain ⟨o, ho⟩ : ∃ o, s.heap.get? c = some o := by
        simp only [List.mem_cons, List.not_mem_nil, or_false] at hcm
        obtain ⟨_, _, g3⟩ := g3
        obtain ⟨_, g4, _⟩ := g4
        obtain ⟨_, g5, _⟩ := g5
        rcases hcm with rfl | rfl | rfl | rfl | rfl
        · exact ⟨_, g1⟩
        · exact ⟨_, g2⟩
        · exact ⟨_, g3⟩
        · exact ⟨_, g4⟩
        · exact ⟨_, g5⟩
      have := Heap.lt_size ho
      rw [e] at this
      exact absurd hT (Nat.not_le_of_lt this)
    rw [upd_ne ne]
    exact (fp c hcm).1
  done := by
    intro X eP ew eK hc i pins s σ H E I fp st hg
    subst eP ew eK
    obtain ⟨hi, g1, g2, g3, g4, g5⟩ := st
    obtain ⟨hi2, us, ws, s1, s2, hn⟩ := hg
    obtain ⟨its, r1, l1, _⟩ := I.tuple s1
    obtain ⟨jts, r2, l2, _⟩ := I.list s2
    have len1 := r1.length
    have len2 := r2.length
    have hin : i = min its.toArray.size jts.toArray.size := by simp only [List.size_toArray]; omega
    have W := GoesN.zip2 (prog := X.prog) (w := X.w) (A := X.A) (elts := elts) (x1 := kk) (pos := tp) S (Draws.tuple (prog := X.prog) (w := X.w) (A := X.A.in1) (I.ok.hd hc) j1 a na its.toArray) (Draws.list (prog := X.prog) (w := X.w) (A := X.A.in1) (I.ok.hd hc) j2 b nb jts.toArray)
    rw [hin] at g4 g5
    refine W.stops s _ _ ⟨g1, g2, g3, ⟨g4, l1⟩, ⟨g5, l2.isList⟩⟩ fun h' tk kk' _ => ?_
    refine I.turnedL (t' := tk) (ch := [z, TI, TO, j1, j2]) (fun c o hcm => kk' c o fun hm => hcm (by
      simp only [List.mem_cons, List.not_mem_nil, or_false] at hm ⊢
      rcases hm with e | e | e | e
      · exact .inl e
      · exact .inr (.inr (.inl e))
      · exact .inr (.inr (.inr (.inl e)))
      · exact .inr (.inr (.inr (.inr e))))) fp
  self := fun A i s Q E st h => wpAny_pyIter_zip st.2.1 h
def tZipN (K : PySem.W.Frag) (ta : TA) : TI := fun σ H R => ta σ H fun vs H1 => ∃ a b us ws, vs = [.ref a, .ref b] ∧ SqT K H1 a us ∧ SqL K H1 b ws ∧ R (ItzN K a b (min us.length ws.length)) H1
section
variable {X : Cx} {e e2 : Expr} {p pos tp : Pos} {elts : List Expr} {kk : Nat}
theorem pi_zipN {ta : TA} (hg : Gl X "zip") (hm : X.mg "zip" = none) (ha : PA X [e, e2] ta) (hs : starEach [e, e2] X.env = (false, eval e X.env) :: starEach [e2] X.env := by rfl) (hpl : (backTo pos (starEach [e2] X.env)).any (·.1) = false := by rfl) :
    PI X (.Tuple elts kk tp) (.Call (.Name "zip" p) [e, e2] [] pos) (tZipN X.K ta) := by
  refine ⟨fun pins s σ H R I h => Call_ (ld_blt I hg hm PyProof.Rows.boot_zip (PyProof.Rows.callWith_type1 (thn (ha.run pos pins s σ H _ I h) fun us s1 ⟨vs, H1, I1, rv, q1⟩ => ?_) hs hpl))⟩
  obtain ⟨a, b, as, bs, rfl, s1', s2', q⟩ := q1
  obtain ⟨u1, u2, rfl, ru1, ru2⟩ : ∃ u1 u2, us = [u1, u2] ∧ RelV (.ref a) u1 ∧ RelV (.ref b) u2 := by
    cases rv with
    | cons r1 rr => cases rr with
      | cons r2 rr => cases rr; exact ⟨_, _, rfl, r1, r2⟩
  cases ru1
  cases ru2
  obtain ⟨its, r1, l1, _⟩ := I1.tuple s1'
  obtain ⟨jts, r2, l2, _⟩ := I1.list s2'
  have la : a < s1.heap.objs.size := by obtain ⟨o, ho, _⟩ := id l1; exact Heap.lt_size ho
  have lb : b < s1.heap.objs.size := l2.lt
  refine zip_begins2 (begins_tuple a its.toArray) (begins_list b jts.toArray) l1 l2.isList fun h' g1 g2 g3 g4 g5 hz hk => wpAny_pyIter_zip g1 ?_
  refine ⟨s1.heap.objs.size + 4, [s1.heap.objs.size + 4, s1.heap.objs.size + 2, s1.heap.objs.size + 3, s1.heap.objs.size, s1.heap.objs.size + 1], _, _, H1, rfl, I1.kept (t' := s1.toks) hk,
    turn_zipN (zip_sep2 (fun c hc => by rw [List.mem_singleton.mp hc]; exact la) (fun c hc => by rw [List.mem_singleton.mp hc]; exact lb)) (Nat.ne_of_lt la) (Nat.ne_of_lt (Nat.lt_succ_of_lt lb)),
    ⟨Nat.zero_le _, g1, g2, ⟨_, _, g3⟩, ⟨_, g4, rfl, rfl⟩, ⟨_, g5, rfl, rfl⟩⟩, fun c hcm => ?_, q⟩
  have hle : s1.heap.objs.size ≤ c := by
    simp only [List.mem_cons, List.not_mem_nil, or_false] at hcm
    rcases hcm with rfl | rfl | rfl | rfl | rfl <;> first | exact Nat.le_refl _ | exact Nat.le_add_right _ _
  exact I1.fpOk hle (I1.hok.fresh hle)
end
def iZipN (f g : EX) : IX := fun e S => (f e S).bind fun p => (g e p.2).bind fun q => match p.1 with
  | .tup xs => (listOf q.2 q.1).map fun ys => (zipD xs ys, gsOf q.1, q.2)
  | _ => none
theorem it_zipN {K : PySem.W.Frag} {m : M} {Z : List Addr} {a b : Addr} {xs ys : List D} {g1 : List Nat} {us : List V} {n : Nat} (h1 : Stays K Z m b ys g1) (s : Sim ⟨K, Z⟩ m) (q1 : SqT K m.H a us) (r1 : RepL ⟨K, Z⟩ m xs us) (hn : min xs.length ys.length = n) : ItOk K Z m (zipD xs ys) g1 (ItzN K a b n) := ⟨fun Z' m' hz hw x si gd i => by
  obtain ⟨ws, q2, r2⟩ := h1 Z' m' hz hw x si gd
  have q1 : SqT K m'.H a us := x.sqT s.bok q1
  have r1 : RepL ⟨K, Z'⟩ m' xs us := RepL.mono s.bok x xs us (RepL.widen hw xs us r1)
  have hn' : min us.length ws.length = n := by rw [r1.len, r2.len]; exact hn
  refine ⟨fun hi => ⟨?_, us, ws, q1, q2, hn'⟩, fun d hd => ?_⟩
  · unfold zipD at hi
    rw [List.length_zipWith, hn] at hi
    exact hi
  obtain ⟨x1, y1, hx, hy, rfl⟩ := zipD_get hd
  obtain ⟨v1, hv1, rv1⟩ := r1.get hx
  obtain ⟨v2, hv2, rv2⟩ := r2.get hy
  refine ⟨⟨us, ws, v1, v2, q1, q2, hv1, hv2, hn'⟩, fun v H3 ⟨T, u1, u2, eT, hT, eH, f1, f2⟩ => ?_⟩
  subst eT eH
  have e1 : v1 = u1 := Option.some.inj (hv1.symm.trans (f1 us q1))
  have e2 : v2 = u2 := Option.some.inj (hv2.symm.trans (f2 ws q2))
  subst e1 e2
  exact pair_new si hT rv1 rv2⟩
section
variable {X : Cx} {e e2 : Expr} {p pos tp : Pos} {elts : List Expr} {kk : Nat} {f g : EX}
theorem ij_zipN (hg : Gl X "zip") (hm : X.mg "zip" = none) (h : EJ X e f) (k : EJ X e2 g) (hs : starEach [e, e2] X.env = (false, eval e X.env) :: starEach [e2] X.env := by rfl) (hpl : (backTo pos (starEach [e2] X.env)).any (·.1) = false := by rfl)
    (hs'' : starEach [e2] X.env = (false, eval e2 X.env) :: starEach [] X.env := by rfl) : IJ X (.Tuple elts kk tp) (.Call (.Name "zip" p) [e, e2] [] pos) (iZipN f g) :=
  pi_wk (pi_zipN hg hm (aj_cons h (aj_cons k aj_nil hs'') hs) hs hpl) fun σ H R ⟨Z, m, env, ds, gs, S', eH, s, er, hf, q⟩ => by
    unfold iZipN at hf
    obtain ⟨⟨a, S1⟩, h1, hf⟩ := Option.bind_eq_some_iff.mp hf
    obtain ⟨⟨b, S2⟩, h2, hf⟩ := Option.bind_eq_some_iff.mp hf
    refine ⟨Z, m, env, [a, b], S2, eH, s, er, by simp [aCons, h1, h2, aNil], fun m1 vx e1 t1 rx0 => ?_⟩
    obtain ⟨x, y, rfl, rx, ry⟩ := rx0.two_inv
    cases a <;> first | exact no2 hf | skip
    rename_i xs
    obtain ⟨ys, l1, hf⟩ := Option.map_eq_some_iff.mp (show (listOf S2 b).map _ = _ from hf)
    simp only [Prod.mk.injEq] at hf
    obtain ⟨rfl, rfl, rfl⟩ := hf
    obtain ⟨pa, us, rfl, q1, r1⟩ := rx
    obtain ⟨pb, ws, rfl, q2, r2⟩ := t1.si.list ry (by rw [e1]; exact l1)
    obtain ⟨_, ea, sa⟩ := t1.si.stays ry (by rw [e1]; exact l1)
    cases ea
    exact ⟨pa, pb, us, ws, rfl, q1, q2, q m1 _ e1 t1 (it_zipN sa t1.si q1 r1 (by rw [r1.len, r2.len]))⟩
end
theorem IV_zipN {e : En} {S : Sto} {QI : List D → List Nat → Sto → Prop} {f g : EX} : IV (iZipN f g) e S QI ↔ EV f e S fun d S1 => EV g e S1 fun d2 S2 => ∃ xs ys, d = .tup xs ∧ listOf S2 d2 = some ys ∧ QI (zipD xs ys) (gsOf d2) S2 := by
  unfold IV EV iZipN
  constructor
  · rintro ⟨ds, gs, S', hh, q⟩
    obtain ⟨⟨d, S1⟩, h1, hh⟩ := Option.bind_eq_some_iff.mp hh
    obtain ⟨⟨d2, S2⟩, h2, hh⟩ := Option.bind_eq_some_iff.mp hh
    cases d <;> first | exact no2 hh | skip
    obtain ⟨ys, l1, hh⟩ := Option.map_eq_some_iff.mp (show (listOf S2 d2).map _ = _ from hh)
    cases hh
    exact ⟨_, S1, h1, d2, _, h2, _, ys, rfl, l1, q⟩
  · rintro ⟨d, S1, h1, d2, S2, h2, xs, ys, rfl, l1, q⟩
    exact ⟨_, _, _, by rw [h1]; show (g e S1).bind _ = _; rw [h2]; show (listOf S2 d2).map _ = _; rw [l1]; rfl, q⟩
end Pv
set_option Elab.async false
set_option linter.all false
set_option maxRecDepth 100000
set_option maxHeartbeats 0
namespace Pv
open PySem PySem.Spec PyProof.Rows L2
/-! the laws' own worth, deeds, days -/
noncomputable def b_lworth (k_lworth : Con) : SX := sSeq (sPar 4 5 (aCons (e2 fIx (eVar 0) (eC (.int 0))) (aCons (eCB (fn1 gSum) (aCons (eVar 2) (aNil))) (aNil)))) (sSeq (sIf (tOf (e2 fIn (eVar 4) (eTup (aCons (eC (.str "fig")) (aCons (eC (.str "reg")) (aNil)))))) (sRet (e2 fMul (eVar 5) (eIf (tOf (e2 fEq (eVar 4) (eC (.str "fig")))) (e2 fIx (eVar 0) (eC (.int 1))) (e2 fIx (eVar 1) (e2 fIx (eVar 0) (eC (.int 1))))))) (sNil)) (sSeq (sIf (tOf (e2 fEq (eVar 4) (eC (.str "share")))) (sRet (e2 fMul (eC (.int 1000)) (e2 fIx (eVar 2) (e2 fIx (eVar 0) (eC (.int 1)))))) (sNil)) (sSeq (sAsgL false (lLc (iSeq (eVar 0)) (gN 6) (tOf (e1 (gIs "tuple") (eVar 6))) (eCall k_lworth (aCons (eVar 6) (aCons (eVar 1) (aCons (eVar 2) (aNil))))) [6]) 3) (sSeq (sIf (tOf (e2 fIn (eVar 4) (eTup (aCons (eC (.str "times")) (aCons (eC (.str "by")) (aNil)))))) (sRet (e2 fMul (e2 fIx (eVar 3) (eC (.int 0))) (eIf (tOf (e2 fEq (eVar 4) (eC (.str "times")))) (e2 fIx (eVar 0) (eC (.int 1))) (e2 fIx (eVar 1) (e2 fIx (eVar 0) (eC (.int 1))))))) (sNil)) (sSeq (sIf (tOf (e2 fEq (eVar 4) (eC (.str "when")))) (sRet (e2 fIx (eVar 3) (eCB (fn1 gInt) (aCons (e2 fGe (e2 fIx (eVar 1) (e2 fIx (eVar 0) (eC (.int 1)))) (e2 fIx (eVar 0) (eC (.int 2)))) (aNil))))) (sNil)) (sSeq (sIf (tOf (e2 fEq (eVar 4) (eC (.str "where")))) (sRet (e2 fIx (eVar 3) (eCB (fn1 gInt) (aCons (e2 fGe (e2 fMul (eC (.int 1000)) (e2 fIx (eVar 2) (e2 fIx (eVar 0) (eC (.int 1))))) (e2 fMul (e2 fIx (eVar 0) (eC (.int 2))) (eVar 5))) (aNil))))) (sNil)) (sSeq (sIf (tOf (e2 fIn (eVar 4) (eTup (aCons (eC (.str "sum")) (aCons (eC (.str "less")) (aNil)))))) (sRet (e2 fAdd (e2 fIx (eVar 3) (eC (.int 0))) (e2 fMul (e2 fIx (eVar 3) (eC (.int 1))) (eIf (tOf (e2 fEq (eVar 4) (eC (.str "sum")))) (eC (.int 1)) (e1 fNeg (eC (.int 1))))))) (sNil)) (sRet (e2 fIx (eFz (lCB (fnl1 gSorted) (aCons (eVar 3) (aNil)))) (eCB (fn1 gInt) (aCons (e2 fEq (eVar 4) (eC (.str "most"))) (aNil))))))))))))
noncomputable def cc_lworth : Nat → Con
  | 0 => fun _ _ => none
  | n + 1 => den 3 7 0 (b_lworth (cc_lworth n))
noncomputable def b_ldone (k_ldone : Con) : SX := sSeq (sAsg (eBx (lCB (fnl1 gList) (aCons (eVar 1) (aNil)))) (gN 3)) (sSeq (sFor (iSeq (eVar 0)) (gN 4) (sSeq (sAsg (eSl fSlT (eVar 4) (oNo) (oSome (eC (.int 3)))) (gT 3 (gsCons (gN 5) (gsCons (gN 6) (gsCons (gN 7) (gsNil)))))) (sIf (tOf (e2 fEq (eVar 5) (eC (.str "when")))) (sAsg (eBx (lCB (fnl1 gList) (aCons (eCall k_ldone (aCons (eIf (tOf (e2 fLt (e2 fIx (eVar 3) (eVar 6)) (eVar 7))) (e2 fIx (eVar 4) (eC (.int 3))) (e2 fIx (eVar 4) (eC (.int 4)))) (aCons (eVar 3) (aCons (eVar 2) (aNil))))) (aNil)))) (gN 3)) (sIf (tOf (e2 fEq (eVar 5) (eC (.str "told")))) (sAsg (e2 fDiv (e2 fMul (eC (.int 1000)) (e2 fIx (eVar 2) (eVar 7))) (eCB (fn1 gSum) (aCons (eVar 2) (aNil)))) (gS (eVar 3) (eVar 6))) (sSeq (sAsg (eIf (tOf (e2 fIn (eVar 5) (eTup (aCons (eC (.str "put")) (aCons (eC (.str "add")) (aNil)))))) (eVar 7) (e2 fIx (eVar 3) (eVar 7))) (gN 8)) (sSeq (sAsg (e2 fAdd (eVar 8) (e2 fMul (e2 fIx (eVar 3) (eVar 6)) (eCB (fn1 gInt) (aCons (e2 fIn (eVar 5) (eTup (aCons (eC (.str "add")) (aCons (eC (.str "plus")) (aNil))))) (aNil))))) (gN 8)) (sAsg (eCB (fn2 gMin2) (aCons (eC (.int 1000)) (aCons (eCB (fn2 gMax2) (aCons (e1 fNeg (eC (.int 1000))) (aCons (eVar 8) (aNil)))) (aNil)))) (gS (eVar 3) (eVar 6))))))))) (sRet (eCB (fn1 gTuple) (aCons (eVar 3) (aNil)))))
noncomputable def cc_ldone : Nat → Con
  | 0 => fun _ _ => none
  | n + 1 => den 3 9 0 (b_ldone (cc_ldone n))
noncomputable def b_lstepped (k__law_worth k__law_done : Con) : SX := sSeq (sAsg (eSl fSlT (eVar 0) (oNo) (oSome (eC (.int 3)))) (gT 3 (gsCons (gN 9) (gsCons (gN 10) (gsCons (gN 11) (gsNil)))))) (sSeq (sAsg (eSl fSlT (eVar 0) (oSome (eC (.int 3))) (oNo)) (gT 5 (gsCons (gN 12) (gsCons (gN 13) (gsCons (gN 5) (gsCons (gN 6) (gsCons (gN 7) (gsNil)))))))) (sSeq (sPar 14 15 (aCons (eCB (fn1 gSum) (aCons (eVar 1) (aNil))) (aCons (eFz (lLc (iSeq (e2 fIx (eVar 10) (eC (.int 3)))) (gN 16) (tYes') (eCall k__law_worth (aCons (eVar 16) (aCons (eVar 11) (aCons (eVar 1) (aNil))))) [16])) (aNil)))) (sSeq (sAsg (e2 fMul (e2 fMul (e2 fMul (eC (.int 1000)) (e2 fIx (eFz (lDisp (aCons (eC (.int 1)) (aCons (eC (.int 2)) (aCons (eC (.int 4)) (aCons (eC (.int 8)) (aCons (eC (.int 16)) (aNil)))))))) (e2 fIx (eVar 10) (eC (.int 1))))) (eVar 14)) (eVar 14)) (gN 3)) (sSeq (sAsg (e2 fSub (e2 fMul (eVar 14) (e2 fIx (eVar 15) (eVar 2))) (eCB (fn1 gSum) (aCons (eFz (lLc (iZipN (eVar 1) (eVar 15)) (gT 2 (gsCons (gN 17) (gsCons (gN 18) (gsNil)))) (tYes') (e2 fMul (eVar 17) (eVar 18)) [17, 18])) (aNil)))) (gN 4)) (sSeq (sAsg (e2 fSub (eC (.int 1)) (e2 fDiv (e2 fSub (eC (.int 0)) (e2 fMul (eVar 5) (e2 fAdd (eVar 3) (eVar 4)))) (eVar 3))) (gN 5)) (sSeq (sAsg (e2 fAdd (eVar 6) (eCB (fn1 gInt) (aCons (e2 fGt (eLenSet (eVar 15)) (eC (.int 1))) (aNil)))) (gN 6)) (sSeq (sAsg (e2 fAdd (eVar 7) (e2 fDiv (e2 fMul (e2 fPow (eC (.int 10)) (eC (.int 9))) (eVar 4)) (eVar 3))) (gN 7)) (sSeq (sAsg (eCall k__law_done (aCons (e2 fIx (e2 fIx (eVar 10) (eC (.int 4))) (eVar 2)) (aCons (eVar 11) (aCons (eVar 1) (aNil))))) (gN 8)) (sRet (eTup (aCons (eVar 9) (aCons (eVar 10) (aCons (eVar 8) (aCons (eVar 12) (aCons (e2 fDiv (e2 fMul (eVar 13) (e2 fAdd (eVar 3) (eVar 4))) (eVar 3)) (aCons (eVar 5) (aCons (eVar 6) (aCons (eVar 7) (aNil)))))))))))))))))))
noncomputable def c_lstepped (n k : Nat) : Con := den 3 19 0 (b_lstepped (cc_lworth n) (cc_ldone k))
noncomputable def b_lmade : SX := sRet (eTup (aCons (eC (.str "one")) (aCons (eVar 0) (aCons (e2 fIx (eVar 0) (eC (.int 2))) (aCons (eVar 1) (aCons (eVar 1) (aCons (eC (.int 0)) (aCons (eC (.int 0)) (aCons (eC (.int 0)) (aNil))))))))))
noncomputable def c_lmade : Con := den 2 2 0 b_lmade
theorem r_inS2 {S : Sto} {u v w : Str} : fIn S (.str u) (.tup [.str v, .str w]) = some (.bl (v == u || (w == u || false))) := rfl
theorem sort2 {x y : Int} : sortI [x, y] = if x ≤ y then [x, y] else [y, x] := by
  unfold sortI
  by_cases h : x ≤ y
  · rw [if_pos h]; simp [List.mergeSort, List.merge, List.MergeSort.Internal.splitInTwo, h]
  · rw [if_neg h]; simp [List.mergeSort, List.merge, List.MergeSort.Internal.splitInTwo, h]
theorem r_sorted2 {S : Sto} {x y : Int} : gSorted S (.lst [.int x, .int y]) = some (if x ≤ y then [.int x, .int y] else [.int y, .int x]) := by
  show some ((sortI [x, y]).map D.int) = _
  rw [sort2]
  split <;> rfl
theorem CV_lworth {many : Nat} {rs sh : List Int} (c : Ctx many rs sh) : ∀ (e : Xp) {n : Nat} {S : Sto} {Q : D → Sto → Prop}, exOk many e → lev e < n → lev e ≤ 20 → Q (.int (wv rs sh e)) S → CV (cc_lworth n) [exD e, .tup (rs.map D.int), .tup (sh.map D.int)] S Q := by
  have t := c.tot
  have gr : ∀ {i : Nat}, i < 4 → atI (rs.map D.int) (i : Int) = some (.int (rs.getD i 0)) := fun {i} h => getD_at (by rw [c.rl]; exact h)
  have gs : ∀ {i : Nat}, i < many → atI (sh.map D.int) (i : Int) = some (.int (sh.getD i 0)) := fun {i} h => getD_at (by rw [c.sl]; exact h)
  intro e
  induction e with
  | fig m =>
    intro n S Q h hl hl2 q
    obtain ⟨h1, h2⟩ := h
    cases n with
    | zero => omega
    | succ n =>
      refine CV_plain rfl ?_
      unfold b_lworth exD
      (simp_arith [r_inS2, beqS, Wd, decide_true, decide_false, Bool.or_false, Bool.true_or, Bool.or_true])
      refine ⟨rfl, sm_mul (sm_k (by omega)) (sm_k (by omega)), RtP_same rfl ?_⟩
      have q : Q (.int (m * sh.sum)) S := q
      rw [Int.mul_comm] at q
      exact q
  | reg i =>
    intro n S Q h hl hl2 q
    have h1 := c.r h
    cases n with
    | zero => omega
    | succ n =>
      refine CV_plain rfl ?_
      unfold b_lworth exD
      (simp_arith [r_inS2, beqS, Wd, decide_true, decide_false, Bool.or_false, Bool.true_or, Bool.or_true, Bool.false_or, stay_nil, LV_fold, LV_cons, LV_nil, isT_ex, r_sorted2, gr h])
      refine ⟨rfl, sm_mul (sm_k (by omega)) (sm_k (by omega)), RtP_same rfl ?_⟩
      have q : Q (.int (rs.getD i 0 * sh.sum)) S := q
      rw [Int.mul_comm] at q
      exact q
  | shr i =>
    intro n S Q h hl hl2 q
    have h1 := c.s h
    cases n with
    | zero => omega
    | succ n =>
      refine CV_plain rfl ?_
      unfold b_lworth exD
      (simp_arith [r_inS2, beqS, Wd, decide_true, decide_false, Bool.or_false, Bool.true_or, Bool.or_true, Bool.false_or, stay_nil, LV_fold, LV_cons, LV_nil, isT_ex, r_sorted2, gs h])
      exact ⟨rfl, sm_mul (sm_k (by omega)) (sm_k (by omega)), RtP_same rfl q⟩
  | tim m a ih =>
    intro n S Q h hl hl2 q
    obtain ⟨h1, h2, h3⟩ := h
    have l1 : lev a + 1 < n := hl
    have l2 : lev a + 1 ≤ 20 := hl2
    cases n with
    | zero => omega
    | succ n =>
      refine CV_plain rfl ?_
      unfold b_lworth exD
      (simp_arith [r_inS2, beqS, Wd, decide_true, decide_false, Bool.or_false, Bool.true_or, Bool.or_true, Bool.false_or, stay_nil, LV_fold, LV_cons, LV_nil, isT_ex, r_sorted2])
      refine ⟨rfl, ih h3 (by omega) (by omega) ⟨rfl, rfl, ?_⟩⟩
      (simp_arith [r_inS2, beqS, Wd, decide_true, decide_false, Bool.or_false, Bool.true_or, Bool.or_true, Bool.false_or, stay_nil, LV_fold, LV_cons, LV_nil, isT_ex, r_sorted2])
      refine ⟨sm_mul (wv_sm c h3 (by omega)) (sm_k (by omega)), RtP_same rfl ?_⟩
      have q : Q (.int (m * wv rs sh a)) S := q
      rw [Int.mul_comm] at q
      exact q
  | byr i a ih =>
    intro n S Q h hl hl2 q
    obtain ⟨h1, h3⟩ := h
    have l1 : lev a + 1 < n := hl
    have l2 : lev a + 1 ≤ 20 := hl2
    have r1 := c.r h1
    cases n with
    | zero => omega
    | succ n =>
      refine CV_plain rfl ?_
      unfold b_lworth exD
      (simp_arith [r_inS2, beqS, Wd, decide_true, decide_false, Bool.or_false, Bool.true_or, Bool.or_true, Bool.false_or, stay_nil, LV_fold, LV_cons, LV_nil, isT_ex, r_sorted2, gr h1])
      refine ⟨rfl, ih h3 (by omega) (by omega) ⟨rfl, rfl, ?_⟩⟩
      (simp_arith [r_inS2, beqS, Wd, decide_true, decide_false, Bool.or_false, Bool.true_or, Bool.or_true, Bool.false_or, stay_nil, LV_fold, LV_cons, LV_nil, isT_ex, r_sorted2, gr h1])
      refine ⟨sm_mul (wv_sm c h3 (by omega)) (sm_k (by omega)), RtP_same rfl ?_⟩
      have q : Q (.int (rs.getD i 0 * wv rs sh a)) S := q
      rw [Int.mul_comm] at q
      exact q
  | whn i f a b iha ihb =>
    intro n S Q h hl hl2 q
    obtain ⟨h1, h2, h3, h4, h5⟩ := h
    have l1 : max (lev a) (lev b) + 1 < n := hl
    have l2 : max (lev a) (lev b) + 1 ≤ 20 := hl2
    have r1 := c.r h1
    have q : Q (.int (if rs.getD i 0 < f then wv rs sh a else wv rs sh b)) S := q
    cases n with
    | zero => omega
    | succ n =>
      refine CV_plain rfl ?_
      unfold b_lworth exD
      (simp_arith [r_inS2, beqS, Wd, decide_true, decide_false, Bool.or_false, Bool.true_or, Bool.or_true, Bool.false_or, stay_nil, LV_fold, LV_cons, LV_nil, isT_ex, r_sorted2, gr h1])
      refine ⟨rfl, iha h4 (by omega) (by omega) (ihb h5 (by omega) (by omega) ⟨rfl, rfl, ?_⟩)⟩
      (simp_arith [r_inS2, beqS, Wd, decide_true, decide_false, Bool.or_false, Bool.true_or, Bool.or_true, Bool.false_or, stay_nil, LV_fold, LV_cons, LV_nil, isT_ex, r_sorted2, gr h1])
      by_cases hc : rs.getD i 0 < f
      · rw [if_neg (by omega : ¬ f ≤ rs.getD i 0), at_0, BV_some]
        rw [if_pos hc] at q
        exact RtP_same rfl q
      · rw [if_pos (by omega : f ≤ rs.getD i 0), at_1, BV_some]
        rw [if_neg hc] at q
        exact RtP_same rfl q
  | whr i f a b iha ihb =>
    intro n S Q h hl hl2 q
    obtain ⟨h1, h2, h3, h4, h5⟩ := h
    have l1 : max (lev a) (lev b) + 1 < n := hl
    have l2 : max (lev a) (lev b) + 1 ≤ 20 := hl2
    have r1 := c.s h1
    have q : Q (.int (if 1000 * sh.getD i 0 < f * sh.sum then wv rs sh a else wv rs sh b)) S := q
    cases n with
    | zero => omega
    | succ n =>
      refine CV_plain rfl ?_
      unfold b_lworth exD
      (simp_arith [r_inS2, beqS, Wd, decide_true, decide_false, Bool.or_false, Bool.true_or, Bool.or_true, Bool.false_or, stay_nil, LV_fold, LV_cons, LV_nil, isT_ex, r_sorted2, gs h1])
      refine ⟨rfl, iha h4 (by omega) (by omega) (ihb h5 (by omega) (by omega) ⟨rfl, rfl, ?_⟩)⟩
      (simp_arith [r_inS2, beqS, Wd, decide_true, decide_false, Bool.or_false, Bool.true_or, Bool.or_true, Bool.false_or, stay_nil, LV_fold, LV_cons, LV_nil, isT_ex, r_sorted2, gs h1])
      refine ⟨sm_mul (sm_k (by omega)) (sm_k (by omega)), sm_mul (sm_k (by omega)) (sm_k (by omega)), ?_⟩
      by_cases hc : 1000 * sh.getD i 0 < f * sh.sum
      · rw [if_neg (by omega : ¬ f * sh.sum ≤ 1000 * sh.getD i 0), at_0, BV_some]
        rw [if_pos hc] at q
        exact RtP_same rfl q
      · rw [if_pos (by omega : f * sh.sum ≤ 1000 * sh.getD i 0), at_1, BV_some]
        rw [if_neg hc] at q
        exact RtP_same rfl q
  | sum a b iha ihb =>
    intro n S Q h hl hl2 q
    have l1 : max (lev a) (lev b) + 1 < n := hl
    have l2 : max (lev a) (lev b) + 1 ≤ 20 := hl2
    cases n with
    | zero => omega
    | succ n =>
      refine CV_plain rfl ?_
      unfold b_lworth exD
      (simp_arith [r_inS2, beqS, Wd, decide_true, decide_false, Bool.or_false, Bool.true_or, Bool.or_true, Bool.false_or, stay_nil, LV_fold, LV_cons, LV_nil, isT_ex, r_sorted2])
      refine ⟨rfl, iha h.1 (by omega) (by omega) (ihb h.2 (by omega) (by omega) ⟨rfl, rfl, ?_⟩)⟩
      (simp_arith [r_inS2, beqS, Wd, decide_true, decide_false, Bool.or_false, Bool.true_or, Bool.or_true, Bool.false_or, stay_nil, LV_fold, LV_cons, LV_nil, isT_ex, r_sorted2])
      refine ⟨rfl, sm_mul (wv_sm c h.2 (by omega)) (sm_k (by decide)), RtP_same rfl ?_⟩
      rw [Int.mul_one]
      exact q
  | les a b iha ihb =>
    intro n S Q h hl hl2 q
    have l1 : max (lev a) (lev b) + 1 < n := hl
    have l2 : max (lev a) (lev b) + 1 ≤ 20 := hl2
    cases n with
    | zero => omega
    | succ n =>
      refine CV_plain rfl ?_
      unfold b_lworth exD
      (simp_arith [r_inS2, beqS, Wd, decide_true, decide_false, Bool.or_false, Bool.true_or, Bool.or_true, Bool.false_or, stay_nil, LV_fold, LV_cons, LV_nil, isT_ex, r_sorted2])
      refine ⟨rfl, iha h.1 (by omega) (by omega) (ihb h.2 (by omega) (by omega) ⟨rfl, rfl, ?_⟩)⟩
      (simp_arith [r_inS2, beqS, Wd, decide_true, decide_false, Bool.or_false, Bool.true_or, Bool.or_true, Bool.false_or, stay_nil, LV_fold, LV_cons, LV_nil, isT_ex, r_sorted2])
      refine ⟨rfl, sm_mul (wv_sm c h.2 (by omega)) (sm_k (by decide)), RtP_same rfl ?_⟩
      have q : Q (.int (wv rs sh a - wv rs sh b)) S := q
      rw [show wv rs sh a + wv rs sh b * -1 = wv rs sh a - wv rs sh b by omega]
      exact q
  | lst a b iha ihb =>
    intro n S Q h hl hl2 q
    have l1 : max (lev a) (lev b) + 1 < n := hl
    have l2 : max (lev a) (lev b) + 1 ≤ 20 := hl2
    cases n with
    | zero => omega
    | succ n =>
      refine CV_plain rfl ?_
      unfold b_lworth exD
      (simp_arith [r_inS2, beqS, Wd, decide_true, decide_false, Bool.or_false, Bool.true_or, Bool.or_true, Bool.false_or, stay_nil, LV_fold, LV_cons, LV_nil, isT_ex, r_sorted2])
      refine ⟨rfl, iha h.1 (by omega) (by omega) (ihb h.2 (by omega) (by omega) ⟨rfl, rfl, ?_⟩)⟩
      (simp_arith [r_inS2, beqS, Wd, decide_true, decide_false, Bool.or_false, Bool.true_or, Bool.or_true, Bool.false_or, stay_nil, LV_fold, LV_cons, LV_nil, isT_ex, r_sorted2])
      refine ⟨rfl, ?_⟩
      have q : Q (.int (if wv rs sh b < wv rs sh a then wv rs sh b else wv rs sh a)) S := q
      by_cases hc : wv rs sh a ≤ wv rs sh b
      · rw [if_pos hc, at_0, BV_some]
        have e : (if wv rs sh b < wv rs sh a then wv rs sh b else wv rs sh a) = wv rs sh a := by split <;> omega
        rw [e] at q
        exact RtP_same rfl q
      · rw [if_neg hc, at_0, BV_some]
        have e : (if wv rs sh b < wv rs sh a then wv rs sh b else wv rs sh a) = wv rs sh b := by split <;> omega
        rw [e] at q
        exact RtP_same rfl q
  | mst a b iha ihb =>
    intro n S Q h hl hl2 q
    have l1 : max (lev a) (lev b) + 1 < n := hl
    have l2 : max (lev a) (lev b) + 1 ≤ 20 := hl2
    cases n with
    | zero => omega
    | succ n =>
      refine CV_plain rfl ?_
      unfold b_lworth exD
      (simp_arith [r_inS2, beqS, Wd, decide_true, decide_false, Bool.or_false, Bool.true_or, Bool.or_true, Bool.false_or, stay_nil, LV_fold, LV_cons, LV_nil, isT_ex, r_sorted2])
      refine ⟨rfl, iha h.1 (by omega) (by omega) (ihb h.2 (by omega) (by omega) ⟨rfl, rfl, ?_⟩)⟩
      (simp_arith [r_inS2, beqS, Wd, decide_true, decide_false, Bool.or_false, Bool.true_or, Bool.or_true, Bool.false_or, stay_nil, LV_fold, LV_cons, LV_nil, isT_ex, r_sorted2])
      refine ⟨rfl, ?_⟩
      have q : Q (.int (if wv rs sh b > wv rs sh a then wv rs sh b else wv rs sh a)) S := q
      by_cases hc : wv rs sh a ≤ wv rs sh b
      · rw [if_pos hc, at_1, BV_some]
        have e : (if wv rs sh b > wv rs sh a then wv rs sh b else wv rs sh a) = wv rs sh b := by split <;> omega
        rw [e] at q
        exact RtP_same rfl q
      · rw [if_neg hc, at_1, BV_some]
        have e : (if wv rs sh b > wv rs sh a then wv rs sh b else wv rs sh a) = wv rs sh a := by split <;> omega
        rw [e] at q
        exact RtP_same rfl q
end Pv
set_option Elab.async false
set_option linter.all false
set_option maxRecDepth 100000
set_option maxHeartbeats 0
namespace Pv
open PySem PySem.Spec PyProof.Rows L2
theorem cut_mm {n : Int} : (if (if n > -1000 then n else -1000) < 1000 then (if n > -1000 then n else -1000) else 1000) = cutR n := by
  unfold cutR
  split <;> split <;> (try split) <;> (try split) <;> omega
theorem CV_ldone {many : Nat} {sh : List Int} (hp : 0 < sh.sum) : ∀ (fuel : Nat) (ds : List De) {rs : List Int} {x : D} {S : Sto} {Q : D → Sto → Prop}, gList S x = some (rs.map D.int) → Ctx many rs sh → deOkL many ds → dnstL ds < fuel → Q (.tup ((goL sh ds rs).map D.int)) S → CV (cc_ldone fuel) [.tup (deL ds), x, .tup (sh.map D.int)] S Q := by
  intro fuel
  induction fuel with
  | zero => intro ds rs x S Q hx c h1 h2; omega
  | succ fuel ih =>
    intro ds rs x S Q hx c h1 h2 q
    have tt := c.tot
    refine CV_plain rfl ?_
    unfold b_ldone
    (simp_arith! [hx])
    refine SV_forI (fun r e' S' => ∃ (es : List De) (ts : List Int) (T : Sto) (p : Nat) (x4 x5 x6 x7 x8 : Option D), r = deL es ∧ deOkL many es ∧ dnstL es ≤ dnstL ds ∧ Rg ts ∧ goL sh es ts = goL sh ds rs ∧ S' = S ++ T ∧ S.length ≤ p ∧ S'[p]? = some (.lst (ts.map D.int)) ∧ e' = [some (.tup (deL ds)), some x, some (.tup (sh.map D.int)), some (.ref p), x4, x5, x6, x7, x8]) ⟨ds, rs, [.lst (rs.map D.int)], S.length, none, none, none, none, none, rfl, h1, Nat.le_refl _, ⟨c.rl, c.rb⟩, rfl, rfl, Nat.le_refl _, get_last, rfl⟩ ?_ ?_
    · rintro d r e' S' K ⟨es, ts, T, p, x4, x5, x6, x7, x8, hr, ok, hn, g, eg, rfl, hp1, hb, rfl⟩ hK
      cases es with
      | nil => cases hr
      | cons y es =>
        obtain ⟨rfl, rfl⟩ := List.cons.inj hr
        obtain ⟨ok1, ok2⟩ := ok
        have hn : max (dnst y) (dnstL es) ≤ dnstL ds := hn
        have eg : goL sh es (goD sh y ts) = goL sh ds rs := eg
        have gx := goD_Rg c hp y ts ok1 g
        have bx := box_of hb
        have hl : p < (S ++ T).length := (List.getElem?_eq_some_iff.mp hb).1
        have gr : ∀ {i : Nat}, i < 4 → atI (ts.map D.int) (i : Int) = some (.int (ts.getD i 0)) := fun {i} h => getD_at (by rw [g.1]; exact h)
        have ix : ∀ {i : Nat}, i < 4 → ixN ts.length (i : Int) = some i := fun {i} h => by rw [ixN_in (by omega) (by rw [g.1]; omega)]; rfl
        have rb : ∀ {i : Nat}, i < 4 → -1000 ≤ ts.getD i 0 ∧ ts.getD i 0 ≤ 1000 := fun {i} h => g.2 _ (getD_mem (by rw [g.1]; exact h))
        have m0 : ∀ {z : Int}, -1000 ≤ z ∧ z ≤ 1000 → mulOk z 0 = true ∧ mulOk z 1 = true := fun {z} h => ⟨sm_mul (sm_k (by omega)) (sm_k (by decide)), sm_mul (sm_k (by omega)) (sm_k (by decide))⟩
        have fin : ∀ (z : Int) (i : Nat) (y4 y5 y6 y7 y8 : Option D), goD sh y ts = ts.set i z → K [some (.tup (deL ds)), some x, some (.tup (sh.map D.int)), some (.ref p), y4, y5, y6, y7, y8] ((S ++ T).set p (.lst ((ts.map D.int).set i (.int z)))) := by
          intro z i y4 y5 y6 y7 y8 e
          rw [map_setI, ← e]
          exact hK _ _ ⟨es, goD sh y ts, T.set (p - S.length) (.lst ((goD sh y ts).map D.int)), p, _, _, _, _, _, rfl, ok2, by omega, gx, eg, set_new hp1, hp1, List.getElem?_set_self hl, rfl⟩
        cases y with
        | put i f =>
          obtain ⟨k1, k2, k3⟩ := ok1
          unfold deD
          (simp_arith! [WdD, cut3_3, bx, gr k1, List.length_map, ix k1, (m0 (rb k1)).1, Int.mul_zero, Int.add_zero, cut_mm])
          exact ⟨(fun n hn => nomatch hn), fin _ i _ _ _ _ _ rfl⟩
        | add i f =>
          obtain ⟨k1, k2, k3⟩ := ok1
          unfold deD
          (simp_arith! [WdD, cut3_3, bx, gr k1, List.length_map, ix k1, (m0 (rb k1)).2, Int.mul_one, cut_mm])
          exact ⟨(fun n hn => nomatch hn), fin _ i _ _ _ _ _ (by rw [Int.add_comm]; rfl)⟩
        | cpy i j =>
          obtain ⟨k1, k2⟩ := ok1
          unfold deD
          (simp_arith! [WdD, cut3_3, bx, gr k1, gr k2, List.length_map, ix k1, (m0 (rb k1)).1, Int.mul_zero, Int.add_zero, cut_mm])
          exact ⟨(fun n hn => nomatch hn), fin _ i _ _ _ _ _ rfl⟩
        | pls i j =>
          obtain ⟨k1, k2⟩ := ok1
          unfold deD
          (simp_arith! [WdD, cut3_3, bx, gr k1, gr k2, List.length_map, ix k1, (m0 (rb k1)).2, Int.mul_one, cut_mm])
          exact ⟨(fun n hn => nomatch hn), fin _ i _ _ _ _ _ (by rw [Int.add_comm]; rfl)⟩
        | tld i s =>
          obtain ⟨k1, k2⟩ := ok1
          have gs : atI (sh.map D.int) (s : Int) = some (.int (sh.getD s 0)) := getD_at (by rw [c.sl]; exact k2)
          have xs := c.s k2
          unfold deD
          (simp_arith! [WdD, cut3_3, bx, gs, List.length_map, ix k1])
          refine ⟨sm_mul (sm_k (by decide)) (sm_k (by omega)), sm_div (sm_k (by omega)) (by omega), ?_⟩
          rw [Int.fdiv_eq_ediv_of_nonneg _ (by omega)]
          exact ⟨(fun n hn => nomatch hn), fin _ i _ _ _ _ _ rfl⟩
        | whn i f a b =>
          obtain ⟨k1, k2, k3, k4, k5⟩ := ok1
          have e2 : dnst (.whn i f a b) = 1 + max (dnstL a) (dnstL b) := rfl
          have eG : goD sh (.whn i f a b) ts = if ts.getD i 0 < f then goL sh a ts else goL sh b ts := rfl
          have hg : gList (S ++ T) (.ref p) = some (ts.map D.int) := bx
          unfold deD
          (simp_arith! [WdD, cut5_t3, bx, gr k1])
          have fin2 : ∀ (us : List Int), goD sh (.whn i f a b) ts = us → ∀ (y4 y5 y6 y7 y8 : Option D), K [some (.tup (deL ds)), some x, some (.tup (sh.map D.int)), some (.ref (S ++ T).length), y4, y5, y6, y7, y8] (S ++ T ++ [.lst (us.map D.int)]) := by
            intro us e y4 y5 y6 y7 y8
            rw [← e]
            exact hK _ _ ⟨es, _, T ++ [.lst ((goD sh (.whn i f a b) ts).map D.int)], (S ++ T).length, _, _, _, _, _, rfl, ok2, by omega, gx, eg, by rw [List.append_assoc], by rw [List.length_append]; omega, get_last, rfl⟩
          split
          · rename_i hc
            rw [if_pos hc] at eG
            (simp_arith! [at4_5])
            refine ih a hg (c.regs g) k4 (by omega) ?_
            (simp_arith! [])
            exact ⟨(fun n hn => nomatch hn), fin2 _ eG _ _ _ _ _⟩
          · rename_i hc
            rw [if_neg hc] at eG
            (simp_arith! [at4_5])
            refine ih b hg (c.regs g) k5 (by omega) ?_
            (simp_arith! [])
            exact ⟨(fun n hn => nomatch hn), fin2 _ eG _ _ _ _ _⟩
    · rintro e' S' ⟨es, ts, T, p, x4, x5, x6, x7, x8, hr, ok, hn, g, eg, rfl, hp1, hb, rfl⟩
      cases es with
      | cons y es => cases hr
      | nil =>
        have eg : ts = goL sh ds rs := eg
        (simp_arith! [box_of hb])
        rw [eg]
        exact ⟨⟨T, rfl⟩, .inl ⟨bareL_ints _, q⟩⟩
/-- what a day's stakes are worth by a sign, above their mean -/
def dot (as bs : List Int) : Int := ((List.zip as bs).map fun p => p.1 * p.2).sum
def zOf (sh W : List Int) (s : Nat) : Int := sh.sum * W.getD s 0 - dot sh W
def fullOf (d : Dbt) (sh : List Int) : Int := 1000 * 2 ^ d.scale * sh.sum * sh.sum
def alike (W : List Int) : Bool := decide ((fm W).length ≤ 1)
def stepO (d : Dbt) (sh : List Int) (s : Nat) (o : One) : One :=
  let W := d.stakes.map (wv o.rs sh)
  let z := zOf sh W s
  ⟨goL sh (d.deeds.getD s []) o.rs, o.weight, (o.purse * (fullOf d sh + z)).fdiv (fullOf d sh), 1 - (0 - o.owed * (fullOf d sh + z)).fdiv (fullOf d sh), o.days + (if (fm W).length > 1 then 1 else 0), o.got + (10 ^ 9 * z).fdiv (fullOf d sh)⟩
theorem CV_lmade {S : Sto} {d : Dbt} {w : Int} {Q : D → Sto → Prop} (hb : bare (dbD d) = true) (q : Q (onD (dbD d) ⟨d.rs, w, w, 0, 0, 0⟩) S) : CV c_lmade [dbD d, .int w] S Q := by
  refine CV_plain rfl ?_
  unfold b_lmade
  have e2 : ∀ T : Sto, fIx T (dbD d) (.int 2) = some (.tup (d.rs.map D.int)) := fun _ => rfl
  (simp_arith! [e2])
  refine ⟨sz_le (by decide), RtP_same ?_ q⟩
  show (true && (bare (dbD d) && (bareL (d.rs.map D.int) && true))) = true
  rw [hb, bareL_ints]
  rfl
theorem SV_cut {f g : SX} {e : En} {S : Sto} {Q : Out → Prop} (h : ∀ G : SX, (∀ e' S', SV g e' S' Q → SV G e' S' Q) → SV f e S (then_ Q fun e1 S1 => SV G e1 S1 Q)) : SV (sSeq f g) e S Q := SV_seq.mpr (h g fun _ _ z => z)
theorem zip_map {as bs : List Int} : zipD (as.map D.int) (bs.map D.int) = (List.zip as bs).map fun p => .tup [.int p.1, .int p.2] := by
  unfold zipD
  induction as generalizing bs with
  | nil => rfl
  | cons a as ih =>
    cases bs with
    | nil => rfl
    | cons b bs =>
      rw [List.map_cons, List.map_cons, List.zipWith_cons_cons, ih]
      rfl
theorem dot_nil {bs : List Int} : dot [] bs = 0 := rfl
theorem dot_cons {a b : Int} {as bs : List Int} : dot (a :: as) (b :: bs) = a * b + dot as bs := by
  unfold dot
  rw [List.zip_cons_cons, List.map_cons, List.sum_cons]
theorem dot_le {M : Nat} : ∀ (as bs : List Int), (∀ a, a ∈ as → 0 ≤ a) → (∀ b, b ∈ bs → b.natAbs ≤ M) → ((dot as bs).natAbs : Int) ≤ as.sum * M
  | [], bs, _, _ => by rw [dot_nil]; simp
  | a :: as, [], h, _ => by
    have h1 := (sum_pos_mem (a :: as) h).1
    have : dot (a :: as) [] = 0 := rfl
    rw [this]
    exact Int.mul_nonneg h1 (by omega)
  | a :: as, b :: bs, h, g => by
    have ih := dot_le as bs (fun x hx => h x (List.mem_cons_of_mem _ hx)) fun x hx => g x (List.mem_cons_of_mem _ hx)
    have h1 := h a (List.mem_cons_self ..)
    have g1 := g b (List.mem_cons_self ..)
    rw [dot_cons, List.sum_cons, Int.add_mul]
    have k1 : ((a * b).natAbs : Int) ≤ a * M := by
      rw [Int.natAbs_mul]
      have := Nat.mul_le_mul_left a.natAbs g1
      have e : ((a.natAbs * b.natAbs : Nat) : Int) ≤ ((a.natAbs * M : Nat) : Int) := by omega
      rw [Int.natCast_mul a.natAbs M, show ((a.natAbs : Nat) : Int) = a by omega] at e
      exact e
    have k2 := Int.natAbs_add_le (a * b) (dot as bs)
    omega
theorem wv_bt {many : Nat} {rs sh : List Int} (c : Ctx many rs sh) {e : Xp} (h : exOk many e) (hl : lev e ≤ 8) : (wv rs sh e).natAbs ≤ 2 ^ 170 := Nat.le_trans (Nat.le_trans (wv_bound c e h) (Bw_mono hl)) (by decide +kernel)
/-- a doubter that may be led through days -/
structure DayD (many : Nat) (d : Dbt) : Prop where
  sc : d.scale < 5
  sl : d.stakes.length = many
  st : ∀ e, e ∈ d.stakes → exOk many e ∧ lev e ≤ 8
  dl : d.deeds.length = many
  de : ∀ x, x ∈ d.deeds → deOkL many x ∧ dnstL x ≤ 4
  br : bare (dbD d) = true
theorem full_in {many : Nat} {d : Dbt} {rs sh : List Int} (g : DayD many d) (c : Ctx many rs sh) (hp : 0 < sh.sum) : 0 < fullOf d sh ∧ fullOf d sh ≤ 10 ^ 45 := by
  have p := pw_sc g.sc
  have t := c.tot
  unfold fullOf
  have k1 : 1000 * 2 ^ d.scale * sh.sum ≤ 16000 * 10 ^ 20 := Int.mul_le_mul (by omega) t.2 (by omega) (by omega)
  have k2 : 0 < 1000 * 2 ^ d.scale * sh.sum := Int.mul_pos (by omega) hp
  refine ⟨Int.mul_pos k2 hp, ?_⟩
  have := Int.mul_le_mul k1 t.2 (by omega) (by decide)
  omega
theorem z_bt {many : Nat} {d : Dbt} {rs sh : List Int} (g : DayD many d) (c : Ctx many rs sh) {s : Nat} (hs : s < many) : bt 240 (zOf sh (d.stakes.map (wv rs sh)) s) ∧ bt 240 (dot sh (d.stakes.map (wv rs sh))) := by
  have t := c.tot
  have hb : ∀ b, b ∈ d.stakes.map (wv rs sh) → b.natAbs ≤ 2 ^ 170 := fun b hb => by
    obtain ⟨e, he, rfl⟩ := List.mem_map.mp hb
    exact wv_bt c (g.st e he).1 (g.st e he).2
  have h1 := dot_le sh (d.stakes.map (wv rs sh)) c.sp hb
  have h2 : sh.sum * ((2 ^ 170 : Nat) : Int) ≤ 10 ^ 20 * ((2 ^ 170 : Nat) : Int) := Int.mul_le_mul_of_nonneg_right t.2 (by decide +kernel)
  have h3 : (dot sh (d.stakes.map (wv rs sh))).natAbs ≤ 10 ^ 20 * 2 ^ 170 := by
    have : (10 : Int) ^ 20 * ((2 ^ 170 : Nat) : Int) = ((10 ^ 20 * 2 ^ 170 : Nat) : Int) := by decide +kernel
    omega
  have h4 := hb _ (getD_mem (ns := d.stakes.map (wv rs sh)) (i := s) (by rw [List.length_map, g.sl]; exact hs))
  have h5 : (sh.sum * (d.stakes.map (wv rs sh)).getD s 0).natAbs ≤ 10 ^ 20 * 2 ^ 170 := by
    rw [Int.natAbs_mul]
    exact Nat.mul_le_mul (by omega) h4
  refine ⟨?_, ?_⟩
  · unfold bt zOf
    have h6 : (10 ^ 20 * 2 ^ 170 : Nat) + 10 ^ 20 * 2 ^ 170 < 2 ^ 240 := by decide +kernel
    omega
  · unfold bt
    have h6 : (10 ^ 20 * 2 ^ 170 : Nat) < 2 ^ 240 := by decide +kernel
    omega
theorem cut_l3 {a b c d e f g h : D} : cutD [a, b, c, d, e, f, g, h] none (some 3) = [a, b, c] := rfl
theorem cut_r3 {a b c d e f g h : D} : cutD [a, b, c, d, e, f, g, h] (some 3) none = [d, e, f, g, h] := rfl
theorem CV_lstepped {S : Sto} {many n k s : Nat} {d : Dbt} {o : One} {sh : List Int} {Q : D → Sto → Prop} (g : DayD many d) (c : Ctx many o.rs sh) (hp : 0 < sh.sum) (hm : many ≤ 1000) (hs : s < many) (hn : 8 < n) (hk : 4 < k) (b1 : bt 5000 o.purse) (b2 : bt 5000 o.owed) (q : Q (onD (dbD d) (stepO d sh s o)) S) : CV (c_lstepped n k) [onD (dbD d) o, .tup (sh.map D.int), .int s] S Q := by
  obtain ⟨f0, f1⟩ := full_in g c hp
  obtain ⟨bz, bd⟩ := z_bt g c hs
  have t := c.tot
  have hsc := pw_sc g.sc
  have bf : bt 160 (fullOf d sh) := by unfold bt; have : (10 ^ 45 : Nat) < 2 ^ 160 := (by decide +kernel); omega
  have df : divOk (fullOf d sh) = true := sm_div (bt_sm bf (by decide)) (by omega)
  have bfz : bt 241 (fullOf d sh + zOf sh (d.stakes.map (wv o.rs sh)) s) := by
    have h1 := bf.mono (show 160 ≤ 240 by decide)
    unfold bt at *
    have : (2 : Nat) ^ 241 = 2 ^ 240 + 2 ^ 240 := by decide +kernel
    omega
  refine CV_plain rfl ?_
  unfold b_lstepped onD
  refine SV_cut fun G hG => ?_
  (simp_arith! [cut_l3])
  refine hG _ _ ?_
  clear hG G
  refine SV_cut fun G hG => ?_
  (simp_arith! [cut_r3])
  refine hG _ _ ?_
  clear hG G
  refine SV_cut fun G hG => ?_
  have i3 : ∀ T : Sto, fIx T (dbD d) (.int 3) = some (.tup (d.stakes.map exD)) := fun _ => rfl
  (simp_arith! [i3])
  refine (LV_mapG exD (fun e => .int (wv o.rs sh e)) (fun n _ => rfl) fun e K he hK => ?_).imp fun out S2 q2 => ?_
  · (simp_arith! [])
    exact CV_lworth c e (g.st e he).1 (by have := (g.st e he).2; omega) (by have := (g.st e he).2; omega) hK
  obtain ⟨rfl, rfl⟩ := q2
  refine ⟨sz_le (by rw [List.length_map, g.sl]; omega), ?_⟩
  have e1 : (d.stakes.map fun e => D.int (wv o.rs sh e)) = (d.stakes.map (wv o.rs sh)).map D.int := by rw [List.map_map]; rfl
  rw [e1]
  have lW : (d.stakes.map (wv o.rs sh)).length = many := by rw [List.length_map, g.sl]
  have bW : ∀ b, b ∈ d.stakes.map (wv o.rs sh) → b.natAbs ≤ 2 ^ 170 := fun b hb => by
    obtain ⟨e, he, rfl⟩ := List.mem_map.mp hb
    exact wv_bt c (g.st e he).1 (g.st e he).2
  have q : ∀ W, W = d.stakes.map (wv o.rs sh) → Q (onD (dbD d) ⟨goL sh (d.deeds.getD s []) o.rs, o.weight, (o.purse * (fullOf d sh + zOf sh W s)).fdiv (fullOf d sh), 1 - (0 - o.owed * (fullOf d sh + zOf sh W s)).fdiv (fullOf d sh), o.days + (if (fm W).length > 1 then 1 else 0), o.got + (10 ^ 9 * zOf sh W s).fdiv (fullOf d sh)⟩) S2 := fun W hW => by rw [hW]; exact q
  generalize d.stakes.map (wv o.rs sh) = W at *
  have q := q W rfl
  (simp_arith! [])
  refine hG _ _ ?_
  clear hG G
  refine SV_cut fun G hG => ?_
  have i1 : ∀ T : Sto, fIx T (dbD d) (.int 1) = some (.int d.scale) := fun _ => rfl
  (simp_arith! [i1, sc_at g.sc])
  refine ⟨sm_mul (sm_k (by decide)) (sm_k (by omega)), sm_mul (sm_k (by omega)) (sm_k (by omega)), sm_mul (sm_k ?_) (sm_k (by omega)), ?_⟩
  · have k1 : 1000 * 2 ^ d.scale * sh.sum ≤ 16000 * 10 ^ 20 := Int.mul_le_mul (by omega) t.2 (by omega) (by omega)
    have k2 : 0 < 1000 * 2 ^ d.scale * sh.sum := Int.mul_pos (by omega) hp
    omega
  have ef : 1000 * 2 ^ d.scale * sh.sum * sh.sum = fullOf d sh := rfl
  rw [ef]
  refine hG _ _ ?_
  clear hG G
  refine SV_cut fun G hG => ?_
  have lL : ∀ {T : Sto} {ds : List D}, listOf T (.lst ds) = some ds := rfl
  (simp_arith! [IV_zipN, getD_at (show s < W.length by omega), lL, zip_map])
  have bw : bt 171 (W.getD s 0) := by
    have := bW _ (getD_mem (ns := W) (i := s) (by omega))
    unfold bt
    have : (2 : Nat) ^ 171 = 2 ^ 170 + 2 ^ 170 := by decide +kernel
    omega
  have bs : bt 70 sh.sum := by unfold bt; have : (10 ^ 20 : Nat) < 2 ^ 70 := (by decide +kernel); omega
  refine ⟨bt_ok bs bw (by decide) (by decide), ?_⟩
  refine (LV_mapG (fun p : Int × Int => D.tup [.int p.1, .int p.2]) (fun p => .int (p.1 * p.2)) (fun n _ => rfl) fun p K hp0 hK => ?_).imp fun out S2 q2 => ?_
  · (simp_arith! [])
    have m1 := c.sp _ (List.of_mem_zip hp0).1
    have m2 := (sum_pos_mem sh c.sp).2 _ (List.of_mem_zip hp0).1
    have m3 := bW _ (List.of_mem_zip hp0).2
    have n1 : bt 70 p.1 := by unfold bt at *; omega
    have n2 : bt 171 p.2 := by
      unfold bt
      have : (2 : Nat) ^ 171 = 2 ^ 170 + 2 ^ 170 := by decide +kernel
      omega
    exact ⟨bt_ok n1 n2 (by decide) (by decide), hK⟩
  obtain ⟨rfl, rfl⟩ := q2
  have lz : (List.zip sh W).length ≤ 1000 := by rw [List.length_zip]; omega
  refine ⟨sz_le (by rw [List.length_map]; omega), ?_⟩
  have e2 : ((List.zip sh W).map fun p => D.int (p.1 * p.2)) = ((List.zip sh W).map fun p => p.1 * p.2).map D.int := by rw [List.map_map]; rfl
  rw [e2]
  (simp_arith! [])
  have ez : sh.sum * W.getD s 0 - ((List.zip sh W).map fun p => p.1 * p.2).sum = zOf sh W s := rfl
  rw [ez]
  generalize zOf sh W s = z at *
  refine hG _ _ ?_
  clear hG G
  refine SV_cut fun G hG => ?_
  (simp_arith! [df])
  refine ⟨bt_ok b2 bfz (by decide) (by decide), ?_⟩
  refine hG _ _ ?_
  clear hG G
  refine SV_cut fun G hG => ?_
  (simp_arith! [EV_lenSet])
  refine ⟨W, rfl, by omega, ?_⟩
  (simp_arith! [])
  refine hG _ _ ?_
  clear hG G
  refine SV_cut fun G hG => ?_
  have p9 : (10 : Int) ^ Int.toNat 9 = 10 ^ 9 := rfl
  have k9 : powOk 10 9 = true := by decide +kernel
  (simp_arith! [df, p9, k9])
  refine ⟨bt_ok (show bt 40 ((10 : Int) ^ 9) by show ((10 : Int) ^ 9).natAbs < 2 ^ 40; decide +kernel) bz (by decide) (by decide), ?_⟩
  refine hG _ _ ?_
  clear hG G
  refine SV_cut fun G hG => ?_
  have i4 : ∀ T : Sto, fIx T (dbD d) (.int 4) = some (.tup (d.deeds.map dsD)) := fun _ => rfl
  have hsd : s < d.deeds.length := by rw [g.dl]; exact hs
  have ed : atI (d.deeds.map dsD) (s : Int) = some (.tup (deL (d.deeds.getD s []))) := by
    rw [at_nat, List.getElem?_map, List.getElem?_eq_getElem hsd, List.getD_eq_getElem?_getD, List.getElem?_eq_getElem hsd]
    rfl
  have md : d.deeds.getD s [] ∈ d.deeds := by
    rw [List.getD_eq_getElem?_getD, List.getElem?_eq_getElem hsd]
    exact List.getElem_mem hsd
  obtain ⟨d1, d2⟩ := g.de _ md
  (simp_arith! [i4, ed])
  refine CV_ldone hp k _ rfl c d1 (by omega) ?_
  (simp_arith! [])
  refine hG _ _ ?_
  clear hG G
  (simp_arith! [df])
  refine ⟨bt_ok b1 bfz (by decide) (by decide), sz_le (by decide), ?_⟩
  have ec : (if (1 : Int) < ((fm W).length : Int) then (1 : Int) else 0) = (if (fm W).length > 1 then 1 else 0) := by
    by_cases hc : (fm W).length > 1
    · rw [if_pos hc, if_pos (by omega)]
    · rw [if_neg hc, if_neg (by omega)]
  rw [ec]
  refine RtP_same ?_ q
  show (true && (bare (dbD d) && (bareL ((goL sh (d.deeds.getD s []) o.rs).map D.int) && true))) = true
  rw [g.br, bareL_ints]
  rfl
end Pv
set_option Elab.async false
set_option linter.all false
set_option maxRecDepth 100000
set_option maxHeartbeats 1000000
namespace Pv
open PySem PySem.Spec PyProof.Rows L2
/-! what isn't come to: a statement without an end -/
def sFail : SX := fun _ _ => none
section
variable {X : Cx}
theorem sj_fail {st : Stmt} : SJ X st sFail := ⟨fun pins s σ H D I h => by
  obtain ⟨Z, m, env, o, _, _, _, hf, _⟩ := h
  cases hf⟩
/-! max, min of three -/
def fn3 (f : D → D → D → Option D) : FN := fun _ ds => match ds with
  | [a, b, c] => f a b c
  | _ => none
def gMax3 : D → D → D → Option D := fun a b c => match a, b, c with
  | .int i, .int j, .int k => some (.int (if k > (if j > i then j else i) then k else (if j > i then j else i)))
  | _, _, _ => none
theorem nuMax2_int {i j : Int} : nuMax2 (.int i) (.int j) = some (.int (if j > i then j else i)) := by
  show (nuLt (.int i) (.int j)).map _ = _
  show some (if decide (i < j) = true then V.int j else V.int i) = _
  by_cases h : i < j
  · rw [decide_eq_true h, if_pos rfl, if_pos (show j > i from h)]
  · rw [decide_eq_false h, if_neg Bool.false_ne_true, if_neg (show ¬ j > i from h)]
theorem three_inv {c : C} {m : M} {a b d : D} {xs : List V} (h : RepL c m [a, b, d] xs) : ∃ x y z, xs = [x, y, z] ∧ Rep c m a x ∧ Rep c m b y ∧ Rep c m d z := by
  obtain ⟨x, r, rfl, h1, h2⟩ := h
  obtain ⟨y, z, rfl, h3, h4⟩ := RepL.two_inv h2
  exact ⟨x, y, z, rfl, h1, h3, h4⟩
theorem b_max3 (hc : X.calm = true) : CallR X (.builtin "max") (rN X.K (fn3 gMax3)) := by
  rintro pins s σ H xs us Q I r ⟨Z, m, as, d, rfl, si, ra, hf, q⟩
  match as, hf, ra with
  | [a, b, c], hf, ra =>
    obtain ⟨x, y, z, rfl, rx, ry, rz⟩ := three_inv ra
    cases a <;> cases b <;> cases c <;> first | exact no2 hf | skip
    cases hf; cases rx; cases ry; cases rz
    refine call_max3Nu hc pins s σ m.H _ us Q I r ⟨_, _, _, _, rfl, ?_, q m _ rfl (.refl si) rfl⟩
    show (nuMax2 _ _).bind _ = _
    rw [nuMax2_int]
    show nuMax2 _ _ = _
    rw [nuMax2_int]
theorem r_max3 {S : Sto} {i j k : Int} : fn3 gMax3 S [.int i, .int j, .int k] = some (.int (if k > (if j > i then j else i) then k else (if j > i then j else i))) := rfl
/-! a list unpacked -/
def gTL (n : Nat) (gs : GXs) : GX := fun d e S => (listOf S d).bind fun ds => if ds.length = n then gs ds e S else none
theorem gj_tupL {es : List Expr} {k n : Nat} {vs : List Nat} {gs : GXs} {pos : Pos} (hc : X.calm = true) (h : GsJ X es vs gs) (hn : (assignEach es X.env).length = n := by rfl) (hst : (assignEach es X.env).findIdx? (·.1) = none := by rfl) : GJ X (.Tuple es k pos) vs (gTL n gs) :=
  pg_wk (pg_unl hc h hn hst) fun v σ H Q ⟨Z, m, env, d, env', S', e, s, er, r, hg, q⟩ => by
    obtain ⟨ds, h1, h2⟩ := Option.bind_eq_some_iff.mp (show (listOf m.S d).bind _ = _ from hg)
    split at h2
    · rename_i hl
      subst e
      obtain ⟨p, xs, rfl, q1, r1⟩ := s.list r h1
      exact ⟨p, xs, rfl, q1, by rw [r1.len]; exact hl, Z, m, env, ds, env', S', rfl, s, er, r1, h2, q⟩
    · cases h2
/-! index, reverse, insert -/
def idxI (k : Int) : List Int → Option Nat
  | [] => none
  | n :: ns => if n = k then some 0 else (idxI k ns).map (· + 1)
theorem idxI_inv {k : Int} : ∀ {ns : List Int} {j : Nat}, idxI k ns = some j → ns[j]? = some k ∧ ∀ i, i < j → ∃ z, ns[i]? = some z ∧ z ≠ k
  | [], j, h => by cases h
  | n :: ns, j, h => by
    unfold idxI at h
    split at h
    · rename_i e
      cases h
      exact ⟨by rw [e]; rfl, fun i hi => absurd hi (Nat.not_lt_zero _)⟩
    · rename_i e
      obtain ⟨j', h1, rfl⟩ := Option.map_eq_some_iff.mp h
      obtain ⟨i1, i2⟩ := idxI_inv h1
      refine ⟨by simpa using i1, fun i hi => ?_⟩
      cases i with
      | zero => exact ⟨n, rfl, e⟩
      | succ i =>
        obtain ⟨z, z1, z2⟩ := i2 i (by omega)
        exact ⟨z, by simpa using z1, z2⟩
def hIndex : FM := fun _ ds args => match args with
  | [.int k] => (intsOf ds).bind fun ns => (idxI k ns).map fun j => (.int (j : Nat), ds)
  | _ => none
theorem m_index : MtR X "list.index" (rMt X.K hIndex) := by
  rintro pins s σ H x xs v us Q I rx rxs ⟨Z, m, n, ds, args, r, ds', rfl, si, rfl, hl, hb, ra, hf, q⟩
  match args, hf, ra with
  | [.int k], hf, ra =>
    obtain ⟨ns, h1, h2⟩ := Option.bind_eq_some_iff.mp (show (intsOf ds).bind _ = _ from hf)
    obtain ⟨j, h3, h4⟩ := Option.map_eq_some_iff.mp h2
    simp only [Prod.mk.injEq] at h4
    obtain ⟨rfl, rfl⟩ := h4
    obtain ⟨y, rfl, ry⟩ := ra.one_inv
    cases ry
    obtain ⟨_, ys, hy, ly⟩ := si.at hb
    have ly0 := ly
    rw [intsOf_inv h1] at ly0
    have ey := ly0.ints
    obtain ⟨i1, i2⟩ := idxI_inv h3
    refine mt_index pins s σ m.H _ _ v us Q I rx rxs ⟨m.r n, ys, .int k, j, .int k, rfl, rfl, SqL.of hy, rfl, ?_, ?_, ?_, fun i z hi hz => ?_, ?_⟩
    · rw [ey, List.all_map]; simp [flatV]
    · rw [ey, List.getElem?_map, i1]; rfl
    · show (k == k) = true; simp
    · obtain ⟨w, w1, w2⟩ := i2 i hi
      rw [ey, List.getElem?_map, w1] at hz
      cases hz
      show (w == k) = false
      exact beq_eq_false_iff_ne.mpr w2
    · have e : m.put n ds ys = m := by
        unfold M.put
        have e1 : m.S.set n (.lst ds) = m.S := by
          have h := boxAt_inv hb
          apply List.ext_getElem?
          intro i
          by_cases hi : n = i
          · subst hi
            rw [List.getElem?_set_self hl, h]
          · rw [List.getElem?_set_ne hi]
        have e2 : upd m.H (m.r n) (.lst ys) = m.H := by
          funext a
          by_cases h : a = m.r n
          · subst h; rw [upd_same, hy]
          · rw [upd_ne h]
        rw [e1, e2]
      have t := Tr.put si hl ly
      rw [e] at t
      exact q m _ (by rw [show m.S.set n (.lst ds) = m.S from congrArg M.S e]) t rfl
def hReverse : FM := fun _ ds args => match args with
  | [] => some (.non, ds.reverse)
  | _ => none
theorem RepL.reverse {c : C} {m : M} : ∀ {ds : List D} {vs : List V}, RepL c m ds vs → RepL c m ds.reverse vs.reverse
  | [], vs, h => by rw [show vs = [] from h]; rfl
  | d :: ds, vs, h => by
    obtain ⟨y, r, rfl, h1, h2⟩ := h
    rw [List.reverse_cons, List.reverse_cons]
    exact (RepL.reverse h2).app (RepL.one h1)
theorem m_reverse : MtR X "list.reverse" (rMt X.K hReverse) := by
  rintro pins s σ H x xs v us Q I rx rxs ⟨Z, m, n, ds, args, r, ds', rfl, si, rfl, hl, hb, ra, hf, q⟩
  match args, hf, ra with
  | [], hf, ra =>
    cases hf
    cases ra
    obtain ⟨_, ys, hy, ly⟩ := si.at hb
    refine mt_reverse pins s σ m.H _ _ v us Q I rx rxs ⟨m.r n, ys, rfl, rfl, hy, ?_⟩
    exact q (m.put n ds.reverse ys.reverse) .non rfl (.put si hl ly.reverse) rfl
def hInsert : FM := fun _ ds args => match args with
  | [.int i, d] => if 0 ≤ i ∧ i < 1000000 ∧ szOk (ds.length + 1) = true then some (.non, ds.take i.toNat ++ [d] ++ ds.drop i.toNat) else none
  | _ => none
theorem m_insert : MtR X "list.insert" (rMt X.K hInsert) := by
  rintro pins s σ H x xs v us Q I rx rxs ⟨Z, m, n, ds, args, r, ds', rfl, si, rfl, hl, hb, ra, hf, q⟩
  match args, hf, ra with
  | [.int i, d], hf, ra =>
    obtain ⟨hz, h2⟩ := ite_some (show (if _ then _ else none) = _ from hf)
    simp only [Prod.mk.injEq] at h2
    obtain ⟨rfl, rfl⟩ := h2
    obtain ⟨z0, z1, z2⟩ := hz
    obtain ⟨x1, y, rfl, r1, ry⟩ := ra.two_inv
    cases r1
    obtain ⟨_, ys, hy, ly⟩ := si.at hb
    have hz' := szOk_le z2
    refine mt_insert pins s σ m.H _ _ v us Q I rx rxs ⟨m.r n, ys, i, y, rfl, rfl, hy, by rw [ly.len]; omega, z0, by omega, ?_⟩
    exact q (m.put n (ds.take i.toNat ++ [d] ++ ds.drop i.toNat) (ys.take i.toNat ++ [y] ++ ys.drop i.toNat)) .non rfl (.put si hl (((ly.take _).app (RepL.one ry)).app (ly.drop _))) rfl
/-! a place of a box, op= -/
def rGetL (K : PySem.W.Frag) : V → V → Hp → VK → Prop := fun x y H Q => ∃ p xs i z, x = .ref p ∧ y = .int i ∧ SqL K H p xs ∧ L2.atI xs i = some z ∧ Q z H
theorem get_list : PGet X (rGetL X.K) := by
  intro pins s σ H x y v u Q I rx ry h
  obtain ⟨p, xs, i, z, rfl, rfl, hq, he, q⟩ := h
  cases rx
  obtain ⟨t, rfl⟩ := ry
  obtain ⟨its, r, pl, hz⟩ := I.list hq
  obtain ⟨j, h1, h2, h3, h4, h5⟩ := atI_get he
  obtain ⟨w, ew, rw'⟩ := r.get h2
  have hl := r.length
  have hn := line63
  have fin : EP X pins σ Q w s := ⟨z, H, I, rw', q⟩
  by_cases h0 : 0 ≤ i
  · have hj : i.toNat = j := by
      rw [seqIndex_of h0 h5] at h1
      exact Option.some.inj h1
    exact wpAny_getItem_list pl.isList h0 (by omega) (by rw [hj]; simpa using ew) fin
  · have hj : (i + (its.toArray.size : Int)).toNat = j := by
      rw [seqIndex_neg (by omega) h4] at h1
      rw [List.size_toArray, ← hl]
      exact Option.some.inj h1
    exact wpAny_getItem_list_neg pl.isList (by omega) (by rw [List.size_toArray] <;> omega) (by omega) (by rw [hj]; simpa using ew) fin
/-- o[i] += e, of a box -/
def sAugS (f : F2) (fo fi g : EX) : SX := fun e S => (fo e S).bind fun p => (fi e p.2).bind fun q => match p.1, q.1 with
  | .ref n, .int k => (boxAt q.2 n).bind fun ds => (atI ds k).bind fun x => (g e q.2).bind fun r => (f r.2 x r.1).bind fun d => (boxAt r.2 n).bind fun ds2 => (ixN ds2.length k).map fun j => .nx e (r.2.set n (.lst (ds2.set j d)))
  | _, _ => none
theorem sj_augS {o i b : Expr} {fo fi fb : EX} {op : Operator} {f : F2} {tpos pos : Pos} (ho : EJ X o fo) (hi : EJ X i fi) (he : EJ X b fb) (hp : OpR X (inplaceOp op) (r2 X.K f))
    (ha : ∀ ov iv new, augStore i ov iv new = (do holding [new, ov, iv] (setItem ov iv new); release [new, ov, iv] []; pure .next) := by intros; rfl) : SJ X (.AugAssign (.Subscript o i tpos) op b pos) (sAugS f fo fi fb) :=
  ps_wk (ps_augS ho hi get_list he (show PIp X op (r2 X.K f) from hp) set_list ha) fun D σ H ⟨Z, m, env, o, e, s, er, hf, q⟩ => by
    unfold sAugS at hf
    obtain ⟨⟨x, S1⟩, h1, ha1⟩ := Option.bind_eq_some_iff.mp hf
    obtain ⟨⟨y, S2⟩, h2, h⟩ := Option.bind_eq_some_iff.mp ha1
    cases x <;> cases y <;> first | exact no2 h | skip
    rename_i n k
    obtain ⟨ds, h3, h⟩ := Option.bind_eq_some_iff.mp (show (boxAt S2 n).bind _ = _ from h)
    obtain ⟨x0, h4, h⟩ := Option.bind_eq_some_iff.mp h
    obtain ⟨⟨y, S3⟩, h5, h⟩ := Option.bind_eq_some_iff.mp h
    obtain ⟨d, h6, h⟩ := Option.bind_eq_some_iff.mp h
    obtain ⟨ds2, h7, h⟩ := Option.bind_eq_some_iff.mp h
    obtain ⟨j, h8, h⟩ := Option.map_eq_some_iff.mp h
    cases h
    refine ⟨Z, m, env, .ref n, S1, e, s, er, h1, fun m1 vx e1 t1 rx => ?_⟩
    refine ⟨Z, m1, env, .int k, S2, rfl, t1.si, er.tr s t1, by rw [e1]; exact h2, fun m2 vy e2 t2 ry => ?_⟩
    have t12 := t1.trans s t2
    obtain ⟨hl, xs, hH, rl⟩ := t2.si.at (by rw [e2]; exact h3)
    have rx2 := t2.rep t1.si rx
    obtain ⟨w, hw, rw0⟩ := rl.atI h4
    refine ⟨m2.r n, xs, k, w, rx2.2, ry, SqL.of hH, hw, ?_⟩
    refine ⟨Z, m2, env, y, S3, rfl, t2.si, er.tr s t12, by rw [e2]; exact h5, fun m3 vz e3 t3 rz => ?_⟩
    have t13 := t12.trans s t3
    refine ⟨Z, m3, x0, y, d, rfl, t3.si, t3.rep t2.si rw0, rz, by rw [e3]; exact h6, fun m4 vd e4 t4 rd => ?_⟩
    have t14 := t13.trans s t4
    obtain ⟨hl4, xs4, hH4, rl4⟩ := t4.si.at (show boxAt m4.S n = some ds2 by rw [e4, e3]; exact h7)
    have rx4 := t4.rep t3.si (t3.rep t2.si rx2)
    refine ⟨m4.r n, xs4, k, j, rx4.2, ry, hH4, by rw [rl4.len]; exact h8, ?_⟩
    have rl' : RepL ⟨X.K, Z⟩ m4 (ds2.set j d) (xs4.set j vd) := RepL.set rd j rl4
    have t5 := Tr.put t4.si hl4 rl'
    exact q (m4.put n (ds2.set j d) (xs4.set j vd)) σ (by show m4.S.set n _ = _; rw [e4, e3]) (t14.trans s t5) (er.tr s (t14.trans s t5))
end
theorem GV_tl {n : Nat} {gs : GXs} {d : D} {e : En} {S : Sto} {QE : En → Sto → Prop} : GV (gTL n gs) d e S QE ↔ ∃ ds, listOf S d = some ds ∧ ds.length = n ∧ GsV gs ds e S QE := by
  unfold GV GsV gTL
  constructor
  · rintro ⟨v, S', h, q⟩
    obtain ⟨ds, h1, h2⟩ := Option.bind_eq_some_iff.mp h
    split at h2
    · rename_i hl
      exact ⟨ds, h1, hl, v, S', h2, q⟩
    · cases h2
  · rintro ⟨ds, h1, hl, v, S', h, q⟩
    exact ⟨v, S', by rw [h1, Option.bind_some, if_pos hl]; exact h, q⟩
theorem SV_augS {f : F2} {fo fi g : EX} {e : En} {S : Sto} {QO : Out → Prop} : SV (sAugS f fo fi g) e S QO ↔ EV fo e S fun x S1 => EV fi e S1 fun y S2 => ∃ n k ds x0, x = .ref n ∧ y = .int k ∧ boxAt S2 n = some ds ∧ atI ds k = some x0 ∧ EV g e S2 fun z S3 => BV (f S3 x0 z) fun d => ∃ ds2 j, boxAt S3 n = some ds2 ∧ ixN ds2.length k = some j ∧ QO (.nx e (S3.set n (.lst (ds2.set j d)))) := by
  unfold SV EV sAugS BV
  constructor
  · rintro ⟨o, hf, q⟩
    obtain ⟨⟨x, S1⟩, h1, ha1⟩ := Option.bind_eq_some_iff.mp hf
    obtain ⟨⟨y, S2⟩, h2, h⟩ := Option.bind_eq_some_iff.mp ha1
    refine ⟨x, S1, h1, y, S2, h2, ?_⟩
    cases x <;> cases y <;> first | exact no2 h | skip
    rename_i n k
    obtain ⟨ds, h3, h⟩ := Option.bind_eq_some_iff.mp (show (boxAt S2 n).bind _ = _ from h)
    obtain ⟨x0, h4, h⟩ := Option.bind_eq_some_iff.mp h
    obtain ⟨⟨y, S3⟩, h5, h⟩ := Option.bind_eq_some_iff.mp h
    obtain ⟨d, h6, h⟩ := Option.bind_eq_some_iff.mp h
    obtain ⟨ds2, h7, h⟩ := Option.bind_eq_some_iff.mp h
    obtain ⟨j, h8, h⟩ := Option.map_eq_some_iff.mp h
    cases h
    exact ⟨n, k, ds, x0, rfl, rfl, h3, h4, y, S3, h5, d, h6, ds2, j, h7, h8, q⟩
  · rintro ⟨x, S1, h1, y, S2, h2, n, k, ds, x0, rfl, rfl, h3, h4, z, S3, h5, d, h6, ds2, j, h7, h8, q⟩
    refine ⟨_, ?_, q⟩
    rw [h1]
    show (fi e S1).bind _ = _
    rw [h2]
    show (boxAt S2 n).bind _ = _
    rw [h3]
    show (atI ds k).bind _ = _
    rw [h4]
    show (g e S2).bind _ = _
    rw [h5]
    show (f S3 x0 z).bind _ = _
    rw [h6]
    show (boxAt S3 n).bind _ = _
    rw [h7]
    show (ixN ds2.length k).map _ = _
    rw [h8]
    rfl
end Pv
set_option Elab.async false
set_option linter.all false
set_option maxRecDepth 100000
set_option maxHeartbeats 0
namespace Q44
open PySem PySem.Spec PyProof.Rows L2 Pv
def d_MOST_FIGURE : D := .int 1000
def d_MOST_STAKE : D := .int 500
def d_SCALES : D := .tup [.int 1, .int 2, .int 4, .int 8, .int 16]
def d_PARTS : D := .int 1000000000
noncomputable def b_span_of_pair : SX := sSeq (sIf (tOf (e2 fEq (eVar 0) (eC (.str "sum")))) (sRet (eTup (aCons (e2 fAdd (e2 fIx (eVar 1) (eC (.int 0))) (e2 fIx (eVar 2) (eC (.int 0)))) (aCons (e2 fAdd (e2 fIx (eVar 1) (eC (.int 1))) (e2 fIx (eVar 2) (eC (.int 1)))) (aNil))))) (sNil)) (sSeq (sIf (tOf (e2 fEq (eVar 0) (eC (.str "less")))) (sRet (eTup (aCons (e2 fSub (e2 fIx (eVar 1) (eC (.int 0))) (e2 fIx (eVar 2) (eC (.int 1)))) (aCons (e2 fSub (e2 fIx (eVar 1) (eC (.int 1))) (e2 fIx (eVar 2) (eC (.int 0)))) (aNil))))) (sNil)) (sSeq (sIf (tOf (e2 fEq (eVar 0) (eC (.str "least")))) (sRet (eTup (aCons (eCB (fn2 gMin2) (aCons (e2 fIx (eVar 1) (eC (.int 0))) (aCons (e2 fIx (eVar 2) (eC (.int 0))) (aNil)))) (aCons (eCB (fn2 gMin2) (aCons (e2 fIx (eVar 1) (eC (.int 1))) (aCons (e2 fIx (eVar 2) (eC (.int 1))) (aNil)))) (aNil))))) (sNil)) (sSeq (sIf (tOf (e2 fEq (eVar 0) (eC (.str "most")))) (sRet (eTup (aCons (eCB (fn2 gMax2) (aCons (e2 fIx (eVar 1) (eC (.int 0))) (aCons (e2 fIx (eVar 2) (eC (.int 0))) (aNil)))) (aCons (eCB (fn2 gMax2) (aCons (e2 fIx (eVar 1) (eC (.int 1))) (aCons (e2 fIx (eVar 2) (eC (.int 1))) (aNil)))) (aNil))))) (sNil)) (sRet (eTup (aCons (eCB (fn2 gMin2) (aCons (e2 fIx (eVar 1) (eC (.int 0))) (aCons (e2 fIx (eVar 2) (eC (.int 0))) (aNil)))) (aCons (eCB (fn2 gMax2) (aCons (e2 fIx (eVar 1) (eC (.int 1))) (aCons (e2 fIx (eVar 2) (eC (.int 1))) (aNil)))) (aNil))))))))
noncomputable def b_span (k_span k_span_of_pair : Con) : SX := sSeq (sAsg (e2 fIx (eVar 0) (eC (.int 0))) (gN 1)) (sSeq (sIf (tOf (e2 fEq (eVar 1) (eC (.str "fig")))) (sRet (eTup (aCons (e2 fIx (eVar 0) (eC (.int 1))) (aCons (e2 fIx (eVar 0) (eC (.int 1))) (aNil))))) (sNil)) (sSeq (sIf (tOf (e2 fIn (eVar 1) (eTup (aCons (eC (.str "reg")) (aCons (eC (.str "share")) (aNil)))))) (sRet (eIf (tOf (e2 fEq (eVar 1) (eC (.str "reg")))) (eTup (aCons (e1 fNeg (eC d_MOST_FIGURE)) (aCons (eC d_MOST_FIGURE) (aNil)))) (eTup (aCons (eC (.int 0)) (aCons (eC (.int 1000)) (aNil)))))) (sNil)) (sSeq (sIf (tOf (e2 fEq (eVar 1) (eC (.str "times")))) (sSeq (sAsgL false (lLc (iSeq (eCall k_span (aCons (e2 fIx (eVar 0) (eC (.int 2))) (aNil)))) (gN 4) (tYes') (e2 fMul (e2 fIx (eVar 0) (eC (.int 1))) (eVar 4)) [4]) 2) (sRet (eTup (aCons (eCB (fn1 gMin1) (aCons (eVar 2) (aNil))) (aCons (eCB (fn1 gMax1) (aCons (eVar 2) (aNil))) (aNil)))))) (sNil)) (sSeq (sIf (tOf (e2 fEq (eVar 1) (eC (.str "by")))) (sSeq (sAsg (eCB (fn1 gMax1) (aCons (eFz (lLc (iSeq (eCall k_span (aCons (e2 fIx (eVar 0) (eC (.int 2))) (aNil)))) (gN 4) (tYes') (eCB (fn1 gAbs) (aCons (eVar 4) (aNil))) [4])) (aNil))) (gN 3)) (sRet (eTup (aCons (e2 fMul (e1 fNeg (eC d_MOST_FIGURE)) (eVar 3)) (aCons (e2 fMul (eC d_MOST_FIGURE) (eVar 3)) (aNil)))))) (sNil)) (sRet (eCall k_span_of_pair (aCons (eVar 1) (aCons (eCall k_span (aCons (e2 fIx (eVar 0) (e1 fNeg (eC (.int 2)))) (aNil))) (aCons (eCall k_span (aCons (e2 fIx (eVar 0) (e1 fNeg (eC (.int 1)))) (aNil))) (aNil))))))))))
noncomputable def b_bound (k_span : Con) : SX := sSeq (sAsg (eCB (fn1 gMax1) (aCons (eFz (lLc2 (iSeq (e2 fIx (eVar 0) (eC (.int 3)))) (gN 3) (eCall k_span (aCons (eVar 3) (aNil))) (gN 2) (eCB (fn1 gAbs) (aCons (eVar 2) (aNil))) [3, 2] [2])) (aNil))) (gN 1)) (sRet (eCB (fn2 gMax2) (aCons (eC (.int 1)) (aCons (e1 fNeg (e2 fDiv (e1 fNeg (eVar 1)) (e2 fIx (eC d_SCALES) (e2 fIx (eVar 0) (eC (.int 1)))))) (aNil)))))
noncomputable def b_off (k_bound : Con) : SX := sRet (e2 fDiv (e2 fMul (eC d_MOST_STAKE) (e2 fIx (eVar 0) (eC (.int 7)))) (e2 fMul (eC d_PARTS) (eCall k_bound (aCons (e2 fIx (eVar 0) (eC (.int 1))) (aNil)))))
noncomputable def b_power : SX := sSeq (sAsg (eC (.int 1)) (gN 2)) (sSeq (sWhile (tOf (e2 fGt (eVar 1) (eC (.int 0)))) (sSeq (sIf (tOf (e2 fEq (e2 fMod (eVar 1) (eC (.int 2))) (eC (.int 1)))) (sAsg (e2 fMul (eVar 2) (eVar 0)) (gN 2)) (sNil)) (sPar 0 1 (aCons (e2 fMul (eVar 0) (eVar 0)) (aCons (e2 fDiv (eVar 1) (eC (.int 2))) (aNil)))))) (sRet (eVar 2)))
noncomputable def b_is_borne (k_power : Con) : SX := sSeq (sAsg (e2 fMul (e2 fMul (e2 fMul (eCall k_power (aCons (e2 fAdd (eC d_MOST_STAKE) (eVar 0)) (aCons (e2 fAdd (eVar 1) (eVar 4)) (aNil)))) (eCall k_power (aCons (e2 fSub (eC d_MOST_STAKE) (eVar 0)) (aCons (e2 fSub (eVar 1) (eVar 4)) (aNil))))) (eVar 2)) (eVar 2)) (gN 5)) (sRet (e2 fLe (eVar 5) (e2 fMul (e2 fMul (eCall k_power (aCons (eC d_MOST_STAKE) (aCons (e2 fMul (eC (.int 2)) (eVar 1)) (aNil)))) (eVar 3)) (eVar 3))))
noncomputable def b_most_off (k_is_borne : Con) : SX := sSeq (sPar 4 5 (aCons (e2 fSub (e1 fNeg (eVar 1)) (eC (.int 1))) (aCons (eVar 1) (aNil)))) (sSeq (sWhile (tOf (e2 fLt (eVar 4) (eVar 5))) (sSeq (sAsg (e2 fDiv (e2 fAdd (e2 fAdd (eVar 4) (eVar 5)) (eC (.int 1))) (eC (.int 2))) (gN 6)) (sIf (tOf (eCall k_is_borne (aCons (eVar 0) (aCons (eVar 1) (aCons (eVar 2) (aCons (eVar 3) (aCons (eVar 6) (aNil)))))))) (sAsg (eVar 6) (gN 4)) (sAsg (e2 fSub (eVar 6) (eC (.int 1))) (gN 5))))) (sRet (eIf (tOf (e2 fGe (eVar 4) (e1 fNeg (eVar 1)))) (eVar 4) (eC .non))))
noncomputable def b_sure (k_most_off k_bound : Con) : SX := sRet (eCall k_most_off (aCons (eCall k_bound (aCons (e2 fIx (eVar 0) (eC (.int 1))) (aNil))) (aCons (e2 fIx (eVar 0) (eC (.int 6))) (aCons (e2 fIx (eVar 0) (eC (.int 3))) (aCons (e2 fAdd (e2 fIx (eVar 0) (eC (.int 4))) (e2 fIx (eVar 0) (eC (.int 5)))) (aNil))))))
noncomputable def b__law_hand : SX := sSeq (sAsg (eIf (tOf (e2 fLt (eVar 1) (eCB (fn1 gLen) (aCons (eVar 0) (aNil))))) (e2 fIx (eVar 0) (eVar 1)) (eC (.int 0))) (gN 2)) (sSeq (sAsg (e2 fMul (e2 fMod (eCB (fn1 gAbs) (aCons (eVar 2) (aNil))) (e2 fMul (e2 fPow (eC (.int 10)) (eC (.int 60))) (e2 fPow (eC (.int 10)) (eC (.int 60))))) (eCB (fn1 gInt) (aCons (e2 fGe (eCB (fn1 gAbs) (aCons (eVar 2) (aNil))) (e2 fPow (eC (.int 10)) (eC (.int 18)))) (aNil)))) (gN 3)) (sRet (eBx (lDisp (aCons (eVar 3) (aCons (e2 fAdd (e2 fAdd (e2 fMod (eVar 2) (eC (.int 2305843009213693951))) (e2 fMul (eC (.int 104729)) (eVar 1))) (eC (.int 7))) (aCons (eC (.int 0)) (aNil))))))))
noncomputable def b__law_take : SX := sSeq (sIf (tOf (e2 fGt (e2 fIx (eVar 0) (eC (.int 0))) (eC (.int 0)))) (sSeq (sAsg (e2 fMod (e2 fIx (eVar 0) (eC (.int 0))) (eVar 1)) (gN 5)) (sSeq (sAsg (e2 fDiv (e2 fIx (eVar 0) (eC (.int 0))) (eVar 1)) (gS (eVar 0) (eC (.int 0)))) (sRet (eVar 5)))) (sNil)) (sSeq (sAsg (e2 fAdd (e2 fIx (eVar 0) (eC (.int 2))) (eC (.int 1))) (gS (eVar 0) (eC (.int 2)))) (sSeq (sAsg (eFz (lDisp (aCons (eC (.int 2147483647)) (aCons (eC (.int 2147483629)) (aCons (eC (.int 2147483587)) (aCons (eC (.int 2147483579)) (aCons (eC (.int 2147483563)) (aCons (eC (.int 2147483549)) (aCons (eC (.int 2147483543)) (aCons (eC (.int 2147483497)) (aNil))))))))))) (gN 2)) (sSeq (sAsg (e2 fIx (eVar 2) (e2 fMod (e2 fIx (eVar 0) (eC (.int 2))) (eC (.int 8)))) (gN 3)) (sSeq (sAsg (e2 fAdd (e2 fMod (e2 fMod (e2 fAdd (e2 fIx (eVar 0) (eC (.int 1))) (e2 fMul (e2 fMul (eC (.int 69621)) (e2 fIx (eVar 0) (eC (.int 2)))) (e2 fIx (eVar 0) (eC (.int 2))))) (e2 fPow (eVar 3) (eC (.int 2)))) (eVar 3)) (eC (.int 1))) (gN 4)) (sRet (e2 fMod (e2 fDiv (e2 fMod (e2 fMul (eVar 4) (e2 fAdd (e2 fMod (eVar 4) (eC (.int 1009))) (e2 fIx (eVar 0) (eC (.int 2))))) (eVar 3)) (eC (.int 7))) (eVar 1)))))))
noncomputable def b__law_of (k__law_take : Con) : SX := sRet (e2 fIx (eVar 1) (eCall k__law_take (aCons (eVar 0) (aCons (eCB (fn1 gLen) (aCons (eVar 1) (aNil))) (aNil)))))
noncomputable def b__law_figure (k__law_of k__law_take : Con) : SX := sSeq (sAsg (eFz (lDisp (aCons (eC (.int 0)) (aCons (eC (.int 1)) (aCons (e1 fNeg (eC (.int 1))) (aCons (eC (.int 50)) (aCons (eC (.int 100)) (aCons (eC (.int 250)) (aCons (eC (.int 500)) (aCons (e1 fNeg (eC (.int 500))) (aCons (eC (.int 1000)) (aCons (e1 fNeg (eC (.int 1000))) (aNil))))))))))))) (gN 1)) (sRet (eCall k__law_of (aCons (eVar 0) (aCons (eFz (l2 fAddL (eVar 1) (eFz (lDisp (aCons (e2 fSub (eCall k__law_take (aCons (eVar 0) (aCons (eC (.int 2001)) (aNil)))) (eC (.int 1000))) (aCons (e2 fSub (eCall k__law_take (aCons (eVar 0) (aCons (eC (.int 201)) (aNil)))) (eC (.int 100))) (aNil))))))) (aNil)))))
noncomputable def b__law_registers (k__law_figure : Con) : SX := sRet (eCB (fn1 gTuple) (aCons (eFz (lLc (iRg1 (eC (.int 4))) (gN 1) (tYes') (eCall k__law_figure (aCons (eVar 0) (aNil))) [1])) (aNil)))
noncomputable def b__law_leaf (k__law_take k__law_figure : Con) : SX := sSeq (sAsg (eCall k__law_take (aCons (eVar 0) (aCons (eC (.int 4)) (aNil)))) (gN 2)) (sSeq (sIf (tOf (e2 fEq (eVar 2) (eC (.int 0)))) (sRet (eTup (aCons (eC (.str "reg")) (aCons (eCall k__law_take (aCons (eVar 0) (aCons (eC (.int 4)) (aNil)))) (aNil))))) (sNil)) (sRet (eIf (tOf (e2 fEq (eVar 2) (eC (.int 1)))) (eTup (aCons (eC (.str "fig")) (aCons (eCall k__law_figure (aCons (eVar 0) (aNil))) (aNil)))) (eTup (aCons (eC (.str "share")) (aCons (eCall k__law_take (aCons (eVar 0) (aCons (eVar 1) (aNil)))) (aNil)))))))
noncomputable def b__law_expression (k__law_of k__law_leaf k__law_expression k__law_take k__law_figure : Con) : SX := sSeq (sAsg (eFz (lDisp (aCons (eC (.str "sum")) (aCons (eC (.str "less")) (aCons (eC (.str "least")) (aCons (eC (.str "most")) (aCons (eC (.str "least")) (aCons (eC (.str "most")) (aCons (eC (.str "times")) (aCons (eC (.str "by")) (aCons (eC (.str "when")) (aCons (eC (.str "leaf")) (aNil))))))))))))) (gN 4)) (sSeq (sAsg (eFz (l2 fAddL (eVar 4) (eFz (l2 fMulL (eFz (lDisp (aCons (eC (.str "where")) (aCons (eC (.str "where")) (aNil))))) (eVar 3))))) (gN 4)) (sSeq (sAsg (eIf (tOf (e2 fEq (eVar 2) (eC (.int 0)))) (eC (.str "leaf")) (eCall k__law_of (aCons (eVar 0) (aCons (eVar 4) (aNil))))) (gN 5)) (sSeq (sIf (tOf (e2 fEq (eVar 5) (eC (.str "leaf")))) (sRet (eCall k__law_leaf (aCons (eVar 0) (aCons (eVar 1) (aNil))))) (sNil)) (sSeq (sAsg (eCall k__law_expression (aCons (eVar 0) (aCons (eVar 1) (aCons (e2 fSub (eVar 2) (eC (.int 1))) (aCons (eVar 3) (aNil)))))) (gN 6)) (sSeq (sIf (tOf (e2 fEq (eVar 5) (eC (.str "times")))) (sRet (eTup (aCons (eVar 5) (aCons (e2 fSub (eCall k__law_take (aCons (eVar 0) (aCons (eC (.int 19)) (aNil)))) (eC (.int 9))) (aCons (eVar 6) (aNil)))))) (sNil)) (sSeq (sIf (tOf (e2 fEq (eVar 5) (eC (.str "by")))) (sRet (eTup (aCons (eVar 5) (aCons (eCall k__law_take (aCons (eVar 0) (aCons (eC (.int 4)) (aNil)))) (aCons (eVar 6) (aNil)))))) (sNil)) (sSeq (sAsg (eCall k__law_expression (aCons (eVar 0) (aCons (eVar 1) (aCons (e2 fSub (eVar 2) (eC (.int 1))) (aCons (eVar 3) (aNil)))))) (gN 7)) (sSeq (sIf (tOf (e2 fEq (eVar 5) (eC (.str "when")))) (sRet (eTup (aCons (eVar 5) (aCons (eCall k__law_take (aCons (eVar 0) (aCons (eC (.int 4)) (aNil)))) (aCons (eCall k__law_figure (aCons (eVar 0) (aNil))) (aCons (eVar 6) (aCons (eVar 7) (aNil)))))))) (sNil)) (sSeq (sIf (tOf (e2 fEq (eVar 5) (eC (.str "where")))) (sSeq (sAsg (eCall k__law_of (aCons (eVar 0) (aCons (eFz (lDisp (aCons (eC (.int 1)) (aCons (eC (.int 250)) (aCons (eC (.int 333)) (aCons (eC (.int 500)) (aCons (eC (.int 1000)) (aCons (e2 fAdd (eC (.int 1)) (eCall k__law_take (aCons (eVar 0) (aCons (eC (.int 1000)) (aNil))))) (aNil))))))))) (aNil)))) (gN 8)) (sRet (eTup (aCons (eVar 5) (aCons (eCall k__law_take (aCons (eVar 0) (aCons (eVar 1) (aNil)))) (aCons (eVar 8) (aCons (eVar 6) (aCons (eVar 7) (aNil))))))))) (sNil)) (sRet (eTup (aCons (eVar 5) (aCons (eVar 6) (aCons (eVar 7) (aNil)))))))))))))))
noncomputable def b__law_stake (k__law_of k__law_take k__law_expression : Con) : SX := sSeq (sAsg (eCall k__law_of (aCons (eVar 0) (aCons (eFz (lDisp (aCons (eC (.int 500)) (aCons (eC (.int 125)) (aCons (eC (.int 50)) (aCons (eC (.int 1)) (aCons (e2 fAdd (eC (.int 1)) (eCall k__law_take (aCons (eVar 0) (aCons (eC (.int 500)) (aNil))))) (aNil)))))))) (aNil)))) (gN 4)) (sSeq (sIf (tOf (e2 fEq (eCall k__law_take (aCons (eVar 0) (aCons (eC (.int 4)) (aNil)))) (eC (.int 0)))) (sRet (eTup (aCons (eC (.str "fig")) (aCons (eCall k__law_of (aCons (eVar 0) (aCons (eFz (lDisp (aCons (eC (.int 0)) (aCons (eC (.int 0)) (aCons (eVar 4) (aCons (e1 fNeg (eVar 4)) (aNil))))))) (aNil)))) (aNil))))) (sNil)) (sSeq (sAsg (eTup (aCons (eC (.str "most")) (aCons (eTup (aCons (eC (.str "fig")) (aCons (e1 fNeg (eVar 4)) (aNil)))) (aCons (eCall k__law_expression (aCons (eVar 0) (aCons (eVar 1) (aCons (eVar 2) (aCons (eVar 3) (aNil)))))) (aNil))))) (gN 5)) (sRet (eTup (aCons (eC (.str "least")) (aCons (eTup (aCons (eC (.str "fig")) (aCons (eVar 4) (aNil)))) (aCons (eVar 5) (aNil))))))))
noncomputable def b__law_deeds (k__law_take k__law_of k__law_figure k__law_deeds : Con) : SX := sSeq (sAsg (eBx (lDisp (aNil))) (gN 3)) (sSeq (sFor (iRg1 (eCall k__law_take (aCons (eVar 0) (aCons (eC (.int 4)) (aNil))))) (gN 4) (sSeq (sPar 6 7 (aCons (eCall k__law_take (aCons (eVar 0) (aCons (eC (.int 4)) (aNil)))) (aCons (eCall k__law_of (aCons (eVar 0) (aCons (eFz (lDisp (aCons (eC (.str "put")) (aCons (eC (.str "add")) (aCons (eC (.str "copy")) (aCons (eC (.str "plus")) (aCons (eC (.str "told")) (aCons (eC (.str "add")) (aNil))))))))) (aNil)))) (aNil)))) (sIf (tOf (e2 fIn (eVar 7) (eTup (aCons (eC (.str "put")) (aCons (eC (.str "add")) (aNil)))))) (sExpr (eMt hAppend (eVar 3) (aCons (eTup (aCons (eVar 7) (aCons (eVar 6) (aCons (eCall k__law_figure (aCons (eVar 0) (aNil))) (aNil))))) (aNil)))) (sIf (tOf (e2 fIn (eVar 7) (eTup (aCons (eC (.str "copy")) (aCons (eC (.str "plus")) (aNil)))))) (sExpr (eMt hAppend (eVar 3) (aCons (eTup (aCons (eVar 7) (aCons (eVar 6) (aCons (eCall k__law_take (aCons (eVar 0) (aCons (eC (.int 4)) (aNil)))) (aNil))))) (aNil)))) (sExpr (eMt hAppend (eVar 3) (aCons (eTup (aCons (eVar 7) (aCons (eVar 6) (aCons (eCall k__law_take (aCons (eVar 0) (aCons (eVar 1) (aNil)))) (aNil))))) (aNil)))))))) (sSeq (sIf (tAnd' (tOf (e2 fGt (eVar 2) (eC (.int 0)))) (tOf (e2 fEq (eCall k__law_take (aCons (eVar 0) (aCons (eC (.int 3)) (aNil)))) (eC (.int 0))))) (sSeq (sAsgL false (lLc (iRg1 (eC (.int 2))) (gN 4) (tYes') (eCall k__law_deeds (aCons (eVar 0) (aCons (eVar 1) (aCons (e2 fSub (eVar 2) (eC (.int 1))) (aNil))))) [4]) 5) (sExpr (eMt hAppend (eVar 3) (aCons (eTup (aCons (eC (.str "when")) (aCons (eCall k__law_take (aCons (eVar 0) (aCons (eC (.int 4)) (aNil)))) (aCons (eCall k__law_figure (aCons (eVar 0) (aNil))) (aCons (e2 fIx (eVar 5) (eC (.int 0))) (aCons (e2 fIx (eVar 5) (eC (.int 1))) (aNil))))))) (aNil))))) (sNil)) (sRet (eCB (fn1 gTuple) (aCons (eVar 3) (aNil))))))
noncomputable def b__law_doubter (k__law_take k__law_of k__law_stake k__law_deeds k__law_registers : Con) : SX := sSeq (sPar 6 7 (aCons (eCall k__law_of (aCons (eVar 0) (aCons (eFz (lDisp (aCons (eC (.str "a")) (aCons (eC (.str "doubter")) (aCons (eC (.str "sceptics")) (aCons (eC (.str "zz")) (aNil))))))) (aNil)))) (aCons (eCall k__law_take (aCons (eVar 0) (aCons (eC (.int 5)) (aNil)))) (aNil)))) (sSeq (sAsg (eCB (fn1 gTuple) (aCons (eFz (lLc (iRg1 (eVar 1)) (gN 8) (tYes') (eCall k__law_stake (aCons (eVar 0) (aCons (eVar 1) (aCons (eVar 2) (aCons (eVar 3) (aNil)))))) [8])) (aNil))) (gN 4)) (sSeq (sAsg (eCB (fn1 gTuple) (aCons (eFz (lLc (iRg1 (eVar 1)) (gN 8) (tYes') (eCall k__law_deeds (aCons (eVar 0) (aCons (eVar 1) (aCons (eC (.int 1)) (aNil))))) [8])) (aNil))) (gN 5)) (sRet (eTup (aCons (eVar 6) (aCons (eVar 7) (aCons (eCall k__law_registers (aCons (eVar 0) (aNil))) (aCons (eVar 4) (aCons (eVar 5) (aNil))))))))))
noncomputable def b__law_one (k__law_of k__law_take k__law_registers : Con) : SX := sSeq (sAsg (eCall k__law_of (aCons (eVar 0) (aCons (eFz (lDisp (aCons (eC (.int 1)) (aCons (eC (.int 2)) (aCons (eC (.int 10)) (aCons (eC (.int 1000)) (aCons (e2 fPow (eC (.int 10)) (eC (.int 12))) (aCons (e2 fAdd (eC (.int 1)) (eCall k__law_take (aCons (eVar 0) (aCons (e2 fPow (eC (.int 10)) (eC (.int 6))) (aNil))))) (aNil))))))))) (aNil)))) (gN 2)) (sSeq (sAsg (eCall k__law_of (aCons (eVar 0) (aCons (eFz (lDisp (aCons (eVar 2) (aCons (eC (.int 0)) (aCons (eC (.int 1)) (aCons (eC (.int 7)) (aCons (e2 fMul (eC (.int 3)) (eVar 2)) (aCons (eCall k__law_take (aCons (eVar 0) (aCons (e2 fPow (eC (.int 10)) (eC (.int 12))) (aNil)))) (aNil))))))))) (aNil)))) (gN 3)) (sSeq (sPar 5 6 (aCons (eCall k__law_of (aCons (eVar 0) (aCons (eFz (lDisp (aCons (eC (.int 0)) (aCons (eC (.int 1)) (aCons (eCall k__law_take (aCons (eVar 0) (aCons (eC (.int 99)) (aNil)))) (aNil)))))) (aNil)))) (aCons (eCall k__law_take (aCons (eVar 0) (aCons (eC (.int 40)) (aNil)))) (aNil)))) (sSeq (sAsg (eCall k__law_of (aCons (eVar 0) (aCons (eFz (lDisp (aCons (eC (.int 0)) (aCons (e1 fNeg (eC (.int 1))) (aCons (e2 fPow (eC (.int 10)) (eC (.int 9))) (aCons (e2 fSub (eCall k__law_take (aCons (eVar 0) (aCons (e2 fPow (eC (.int 10)) (eC (.int 10))) (aNil)))) (e2 fMul (eC (.int 5)) (e2 fPow (eC (.int 10)) (eC (.int 9))))) (aNil))))))) (aNil)))) (gN 4)) (sRet (eTup (aCons (eC (.str "one")) (aCons (eVar 1) (aCons (eCall k__law_registers (aCons (eVar 0) (aNil))) (aCons (eVar 2) (aCons (eVar 3) (aCons (eVar 5) (aCons (eVar 6) (aCons (eVar 4) (aNil))))))))))))))
noncomputable def b__law_span (k__law_span : Con) : SX := sSeq (sAsg (e2 fIx (eVar 0) (eC (.int 0))) (gN 1)) (sSeq (sIf (tOf (e2 fEq (eVar 1) (eC (.str "fig")))) (sRet (eTup (aCons (e2 fIx (eVar 0) (eC (.int 1))) (aCons (e2 fIx (eVar 0) (eC (.int 1))) (aNil))))) (sNil)) (sSeq (sIf (tOf (e2 fIn (eVar 1) (eTup (aCons (eC (.str "reg")) (aCons (eC (.str "share")) (aNil)))))) (sRet (eTup (aCons (eIf (tOf (e2 fEq (eVar 1) (eC (.str "reg")))) (e1 fNeg (eC (.int 1000))) (eC (.int 0))) (aCons (eC (.int 1000)) (aNil))))) (sNil)) (sSeq (sAsgL false (lLc (iSeq (eVar 0)) (gN 6) (tOf (e1 (gIs "tuple") (eVar 6))) (eCall k__law_span (aCons (eVar 6) (aNil))) [6]) 2) (sSeq (sIf (tOf (e2 fIn (eVar 1) (eTup (aCons (eC (.str "times")) (aCons (eC (.str "by")) (aNil)))))) (sSeq (sAsg (eIf (tOf (e2 fEq (eVar 1) (eC (.str "times")))) (eFz (lDisp (aCons (e2 fIx (eVar 0) (eC (.int 1))) (aNil)))) (eFz (lDisp (aCons (eC (.int 1000)) (aCons (e1 fNeg (eC (.int 1000))) (aNil)))))) (gN 3)) (sSeq (sAsg (eFz (lDisp (aNil))) (gN 4)) (sSeq (sFor (iSeq (eVar 3)) (gN 5) (sAsg (eFz (l2 fAddL (eVar 4) (eFz (lLc (iSeq (e2 fIx (eVar 2) (eC (.int 0)))) (gN 11) (tYes') (e2 fMul (eVar 5) (eVar 11)) [11])))) (gN 4))) (sRet (eTup (aCons (eCB (fn1 gMin1) (aCons (eVar 4) (aNil))) (aCons (eCB (fn1 gMax1) (aCons (eVar 4) (aNil))) (aNil)))))))) (sNil)) (sSeq (sAsg (eVar 2) (gTL 2 (gsCons (gT 2 (gsCons (gN 7) (gsCons (gN 8) (gsNil)))) (gsCons (gT 2 (gsCons (gN 9) (gsCons (gN 10) (gsNil)))) (gsNil))))) (sSeq (sIf (tOf (e2 fEq (eVar 1) (eC (.str "sum")))) (sRet (eTup (aCons (e2 fAdd (eVar 7) (eVar 9)) (aCons (e2 fAdd (eVar 8) (eVar 10)) (aNil))))) (sNil)) (sSeq (sIf (tOf (e2 fEq (eVar 1) (eC (.str "less")))) (sRet (eTup (aCons (e2 fSub (eVar 7) (eVar 10)) (aCons (e2 fSub (eVar 8) (eVar 9)) (aNil))))) (sNil)) (sSeq (sIf (tOf (e2 fEq (eVar 1) (eC (.str "least")))) (sRet (eTup (aCons (eCB (fn2 gMin2) (aCons (eVar 7) (aCons (eVar 9) (aNil)))) (aCons (eCB (fn2 gMin2) (aCons (eVar 8) (aCons (eVar 10) (aNil)))) (aNil))))) (sNil)) (sRet (eTup (aCons (eIf (tOf (e2 fEq (eVar 1) (eC (.str "most")))) (eCB (fn2 gMax2) (aCons (eVar 7) (aCons (eVar 9) (aNil)))) (eCB (fn2 gMin2) (aCons (eVar 7) (aCons (eVar 9) (aNil))))) (aCons (eCB (fn2 gMax2) (aCons (eVar 8) (aCons (eVar 10) (aNil)))) (aNil)))))))))))))
noncomputable def b__law_bound (k__law_span : Con) : SX := sSeq (sAsg (eC (.int 0)) (gN 1)) (sSeq (sFor (iSeq (e2 fIx (eVar 0) (eC (.int 3)))) (gN 2) (sSeq (sAsg (eCall k__law_span (aCons (eVar 2) (aNil))) (gT 2 (gsCons (gN 4) (gsCons (gN 5) (gsNil))))) (sAsg (eCB (fn3 gMax3) (aCons (eVar 1) (aCons (eCB (fn1 gAbs) (aCons (eVar 4) (aNil))) (aCons (eCB (fn1 gAbs) (aCons (eVar 5) (aNil))) (aNil))))) (gN 1)))) (sSeq (sAsg (e2 fIx (eFz (lDisp (aCons (eC (.int 1)) (aCons (eC (.int 2)) (aCons (eC (.int 4)) (aCons (eC (.int 8)) (aCons (eC (.int 16)) (aNil)))))))) (e2 fIx (eVar 0) (eC (.int 1)))) (gN 3)) (sRet (eCB (fn2 gMax2) (aCons (eC (.int 1)) (aCons (e2 fDiv (e2 fSub (e2 fAdd (eVar 1) (eVar 3)) (eC (.int 1))) (eVar 3)) (aNil)))))))
noncomputable def b__law_power : SX := sSeq (sAsg (eC (.int 1)) (gN 2)) (sSeq (sFor (iRg1 (eVar 1)) (gN 3) (sAsg (e2 fMul (eVar 2) (eVar 0)) (gN 2))) (sRet (eVar 2)))
noncomputable def b__law_most (k__law_power : Con) : SX := sSeq (sPar 6 7 (aCons (eC .non) (aCons (e2 fMul (e2 fMul (eCall k__law_power (aCons (eC (.int 500)) (aCons (e2 fMul (eC (.int 2)) (eVar 1)) (aNil)))) (eVar 3)) (eVar 3)) (aNil)))) (sSeq (sPar 8 9 (aCons (eBx (lDisp (aCons (eC (.int 1)) (aNil)))) (aCons (eBx (lDisp (aCons (eC (.int 1)) (aNil)))) (aNil)))) (sSeq (sFor (iRg1 (e2 fMul (eC (.int 2)) (eVar 1))) (gN 4) (sSeq (sExpr (eMt hAppend (eVar 8) (aCons (e2 fMul (e2 fIx (eVar 8) (e1 fNeg (eC (.int 1)))) (e2 fAdd (eC (.int 500)) (eVar 0))) (aNil)))) (sExpr (eMt hAppend (eVar 9) (aCons (e2 fMul (e2 fIx (eVar 9) (e1 fNeg (eC (.int 1)))) (e2 fSub (eC (.int 500)) (eVar 0))) (aNil)))))) (sSeq (sFor (iRg2 (e1 fNeg (eVar 1)) (e2 fAdd (eVar 1) (eC (.int 1)))) (gN 5) (sIf (tOf (e2 fLe (e2 fMul (e2 fMul (e2 fMul (e2 fIx (eVar 8) (e2 fAdd (eVar 1) (eVar 5))) (e2 fIx (eVar 9) (e2 fSub (eVar 1) (eVar 5)))) (eVar 2)) (eVar 2)) (eVar 7))) (sAsg (eVar 5) (gN 6)) (sNil))) (sRet (eVar 6)))))
noncomputable def b__law_right (k__law_bound k_bound k__law_most k_sure k_off : Con) : SX := sSeq (sPar 3 4 (aCons (eCB (fn1 gReprB) (aCons (eVar 0) (aNil))) (aCons (eCall k__law_bound (aCons (e2 fIx (eVar 0) (eC (.int 1))) (aNil))) (aNil)))) (sSeq (sIf (tOf (e2 fNe (eCB (fn1 gReprB) (aCons (eCall k_bound (aCons (e2 fIx (eVar 0) (eC (.int 1))) (aNil))) (aNil))) (eCB (fn1 gReprB) (aCons (eVar 4) (aNil))))) (sRet (eC (.bl false))) (sNil)) (sSeq (sAsg (eFz (lDisp (aCons (e2 fDiv (e2 fMul (eC (.int 500)) (e2 fIx (eVar 0) (eC (.int 7)))) (e2 fMul (e2 fPow (eC (.int 10)) (eC (.int 9))) (eVar 4))) (aCons (eCall k__law_most (aCons (eVar 4) (aCons (e2 fIx (eVar 0) (eC (.int 6))) (aCons (e2 fIx (eVar 0) (eC (.int 3))) (aCons (e2 fAdd (e2 fIx (eVar 0) (eC (.int 4))) (e2 fIx (eVar 0) (eC (.int 5)))) (aNil)))))) (aNil))))) (gN 1)) (sSeq (sAsg (eFz (lDisp (aCons (eCall k_off (aCons (eVar 0) (aNil))) (aCons (eCall k_sure (aCons (eVar 0) (aNil))) (aNil))))) (gN 2)) (sRet (eAnd (e2 fEq (eCB (fn1 gReprB) (aCons (eVar 2) (aNil))) (eCB (fn1 gReprB) (aCons (eVar 1) (aNil)))) (e2 fEq (eCB (fn1 gReprB) (aCons (eVar 0) (aNil))) (eVar 3)))))))
noncomputable def b__law_otherwise (k__law_registers : Con) : SX := sSeq (sAsg (eSl fSlT (eVar 1) (oNo) (oSome (eC (.int 3)))) (gT 3 (gsCons (gN 6) (gsCons (gN 3) (gsCons (gN 7) (gsNil)))))) (sSeq (sAsg (eSl fSlT (eVar 1) (oSome (eC (.int 3))) (oNo)) (gT 5 (gsCons (gN 8) (gsCons (gN 9) (gsCons (gN 10) (gsCons (gN 11) (gsCons (gN 12) (gsNil)))))))) (sSeq (sAsg (eVar 3) (gT 5 (gsCons (gN 13) (gsCons (gN 14) (gsCons (gN 15) (gsCons (gN 16) (gsCons (gN 17) (gsNil)))))))) (sSeq (sAsg (eTup (aCons (eC (.str "other")) (aCons (eVar 14) (aCons (eCall k__law_registers (aCons (eVar 0) (aNil))) (aCons (eVar 16) (aCons (e2 fMul (eTup (aCons (eTup (aNil)) (aNil))) (eVar 2)) (aNil))))))) (gN 4)) (sSeq (sAsg (eBx (lDisp (aCons (eTup (aCons (eVar 6) (aCons (eVar 4) (aCons (eCall k__law_registers (aCons (eVar 0) (aNil))) (aCons (eVar 8) (aCons (eVar 9) (aCons (eVar 10) (aCons (eVar 11) (aCons (eVar 12) (aNil)))))))))) (aNil)))) (gN 5)) (sSeq (sExpr (eMt hAppend (eVar 5) (aCons (eTup (aCons (eVar 6) (aCons (eVar 3) (aCons (eVar 7) (aCons (eVar 8) (aCons (eVar 10) (aCons (eVar 9) (aCons (eVar 11) (aCons (eVar 12) (aNil)))))))))) (aNil)))) (sSeq (sExpr (eMt hAppend (eVar 5) (aCons (eTup (aCons (eVar 6) (aCons (eVar 3) (aCons (eVar 7) (aCons (eVar 8) (aCons (eVar 9) (aCons (eVar 10) (aCons (e2 fAdd (eVar 11) (eC (.int 1))) (aCons (e2 fSub (eC (.int 0)) (eVar 12)) (aNil)))))))))) (aNil)))) (sSeq (sExpr (eMt hAppend (eVar 5) (aCons (eTup (aCons (eVar 6) (aCons (eVar 3) (aCons (eVar 7) (aCons (e2 fPow (eC (.int 10)) (eC (.int 12))) (aCons (eVar 9) (aCons (eVar 10) (aCons (eVar 11) (aCons (e2 fSub (eVar 12) (eC (.int 1))) (aNil)))))))))) (aNil)))) (sRet (eVar 5)))))))))
noncomputable def b_law (k__law_hand k__law_take k__law_one k__law_doubter k__law_otherwise k__law_right k_off k_sure : Con) : SX := sSeq (sFor (iRg1 (eCB (fn2 gMax2) (aCons (eC (.int 1)) (aCons (eCB (fn2 gMin2) (aCons (eC (.int 4)) (aCons (eCB (fn1 gLen) (aCons (eVar 0) (aNil))) (aNil)))) (aNil))))) (gN 1) (sSeq (sAsg (eCall k__law_hand (aCons (eVar 0) (aCons (eVar 1) (aNil)))) (gN 2)) (sFor (iRg1 (eC (.int 8))) (gN 3) (sSeq (sAsg (e2 fAdd (eC (.int 2)) (eCall k__law_take (aCons (eVar 2) (aCons (eC (.int 2)) (aNil))))) (gN 4)) (sSeq (sAsg (eCall k__law_one (aCons (eVar 2) (aCons (eCall k__law_doubter (aCons (eVar 2) (aCons (eVar 4) (aCons (eC (.int 2)) (aCons (eC (.int 1)) (aNil)))))) (aNil)))) (gN 5)) (sSeq (sAsg (eCall k__law_otherwise (aCons (eVar 2) (aCons (eVar 5) (aCons (eVar 4) (aNil))))) (gN 6)) (sSeq (sIf (tNot' (tOf (eCB (fn1 gAll) (aCons (eFz (lLc (iSeq (eFz (l2 fAddL (eFz (lDisp (aCons (eVar 5) (aNil)))) (eVar 6)))) (gN 7) (tYes') (eCall k__law_right (aCons (eVar 7) (aNil))) [7])) (aNil))))) (sRet (eC (.bl false))) (sNil)) (sIf (tOr' (tOf (e2 fNe (eCall k_off (aCons (e2 fIx (eVar 6) (eC (.int 0))) (aNil))) (eCall k_off (aCons (eVar 5) (aNil))))) (tOf (e2 fNe (eCall k_sure (aCons (e2 fIx (eVar 6) (eC (.int 0))) (aNil))) (eCall k_sure (aCons (eVar 5) (aNil)))))) (sRet (eC (.bl false))) (sNil))))))))) (sRet (eC (.bl true)))
noncomputable def c_span_of_pair : Con := den 3 3 0 b_span_of_pair
noncomputable def cc_span : Nat → Con
  | 0 => fun _ _ => none
  | n + 1 => den 1 5 0 (b_span (cc_span n) c_span_of_pair)
noncomputable def c_span : Con := cc_span 9
noncomputable def c_bound : Con := den 1 4 0 (b_bound c_span)
noncomputable def c_off : Con := den 1 1 0 (b_off c_bound)
noncomputable def c_power : Con := den 2 3 0 b_power
noncomputable def c_is_borne : Con := den 5 6 0 (b_is_borne c_power)
noncomputable def c_most_off : Con := den 4 7 0 (b_most_off c_is_borne)
noncomputable def c_sure : Con := den 1 1 0 (b_sure c_most_off c_bound)
noncomputable def c__law_hand : Con := den 2 4 1 b__law_hand
noncomputable def c__law_take : Con := den 2 6 0 b__law_take
noncomputable def c__law_of : Con := den 2 2 0 (b__law_of c__law_take)
noncomputable def c__law_figure : Con := den 1 2 0 (b__law_figure c__law_of c__law_take)
noncomputable def c__law_registers : Con := den 1 2 0 (b__law_registers c__law_figure)
noncomputable def c__law_leaf : Con := den 2 3 0 (b__law_leaf c__law_take c__law_figure)
noncomputable def cc__law_expression : Nat → Con
  | 0 => fun _ _ => none
  | n + 1 => den 4 9 0 (b__law_expression c__law_of c__law_leaf (cc__law_expression n) c__law_take c__law_figure)
noncomputable def c__law_expression : Con := cc__law_expression 5
noncomputable def c__law_stake : Con := den 4 6 0 (b__law_stake c__law_of c__law_take c__law_expression)
noncomputable def cc__law_deeds : Nat → Con
  | 0 => fun _ _ => none
  | n + 1 => den 3 8 0 (b__law_deeds c__law_take c__law_of c__law_figure (cc__law_deeds n))
noncomputable def c__law_deeds : Con := cc__law_deeds 3
noncomputable def c__law_doubter : Con := den 4 9 0 (b__law_doubter c__law_take c__law_of c__law_stake c__law_deeds c__law_registers)
noncomputable def c__law_one : Con := den 2 7 0 (b__law_one c__law_of c__law_take c__law_registers)
noncomputable def cc__law_span : Nat → Con
  | 0 => fun _ _ => none
  | n + 1 => den 1 12 0 (b__law_span (cc__law_span n))
noncomputable def c__law_span : Con := cc__law_span 9
noncomputable def c__law_bound : Con := den 1 6 0 (b__law_bound c__law_span)
noncomputable def c__law_power : Con := den 2 4 0 b__law_power
noncomputable def c__law_most : Con := den 4 10 0 (b__law_most c__law_power)
noncomputable def c__law_right : Con := den 1 5 0 (b__law_right c__law_bound c_bound c__law_most c_sure c_off)
noncomputable def c__law_otherwise : Con := den 3 18 0 (b__law_otherwise c__law_registers)
noncomputable def c_law : Con := den 1 8 0 (b_law c__law_hand c__law_take c__law_one c__law_doubter c__law_otherwise c__law_right c_off c_sure)
end Q44
set_option Elab.async false
set_option linter.all false
set_option maxRecDepth 100000
set_option maxHeartbeats 0
namespace Q44
open PySem PySem.Spec PyProof.Rows L2 Pv
def topS (i : Nat) : Stmt := PySem.Challenge.pw_nonegrowsrich_k44_off_and_sure_of_ones.main.body.getD i (.Pass ⟨0, 0, 0, 0⟩)
section
variable {P : Program} {w : World} {K : PySem.W.Frag} {mg : Str → Option Value} {base : Heap}
abbrev s_span_of_pair : Stmt := topS 2
abbrev N_span_of_pair : List Str := ["word", "one", "other"]
theorem sc_span_of_pair : FnScope N_span_of_pair ["word", "one", "other"] (defScope s_span_of_pair) := ⟨rfl, rfl, rfl, by decide +kernel, rfl, by decide +kernel, by decide +kernel⟩
theorem ok_span_of_pair {f : Addr} {fd : FuncData} {con : Con} (F : FunD K "span_of_pair" "span_of_pair" (defArgs s_span_of_pair) (defBody s_span_of_pair) (defScope s_span_of_pair) [] [] f fd) (m_min : mg "min" = none) (m_max : mg "max" = none) (len : ∀ ds S r, con ds S = some r → ds.length = 3)
    (real : ∀ ds S v S', WfS S → belowL S.length ds = true → con ds S = some (v, S') → ∃ o, b_span_of_pair (sE 3 ds) S = some o ∧ Fin o v S' ∧ WfS S' ∧ S.length ≤ S'.length) : FnG P w K mg base (0 + 1) f fd ["word", "one", "other"] con :=
  fn_ok (b := b_span_of_pair) F sc_span_of_pair len (fun cdv A outer s H E hr => (bj_cons (sj_if (tj_cmp (o_eq hr.u64) (ej_v 0 (hv := Or.inl rfl)) ej_str (nomark _)) (bj_one (sj_ret (ej_tup (aj_cons (ej_op o_add (ej_ix o_ix (ej_v 1 (hv := Or.inl rfl)) ej_int (fun _ _ => rfl)) (ej_ix o_ix (ej_v 2 (hv := Or.inl rfl)) ej_int (fun _ _ => rfl))) (aj_cons (ej_op o_add (ej_ix o_ix (ej_v 1 (hv := Or.inl rfl)) ej_int (fun _ _ => rfl)) (ej_ix o_ix (ej_v 2 (hv := Or.inl rfl)) ej_int (fun _ _ => rfl))) aj_nil))))) bj_nil) (bj_cons (sj_if (tj_cmp (o_eq hr.u64) (ej_v 0 (hv := Or.inl rfl)) ej_str (nomark _)) (bj_one (sj_ret (ej_tup (aj_cons (ej_op o_sub (ej_ix o_ix (ej_v 1 (hv := Or.inl rfl)) ej_int (fun _ _ => rfl)) (ej_ix o_ix (ej_v 2 (hv := Or.inl rfl)) ej_int (fun _ _ => rfl))) (aj_cons (ej_op o_sub (ej_ix o_ix (ej_v 1 (hv := Or.inl rfl)) ej_int (fun _ _ => rfl)) (ej_ix o_ix (ej_v 2 (hv := Or.inl rfl)) ej_int (fun _ _ => rfl))) aj_nil))))) bj_nil) (bj_cons (sj_if (tj_cmp (o_eq hr.u64) (ej_v 0 (hv := Or.inl rfl)) ej_str (nomark _)) (bj_one (sj_ret (ej_tup (aj_cons (ej_callB (b_min2 rfl) rfl m_min (by decide +kernel) (aj_cons (ej_ix o_ix (ej_v 1 (hv := Or.inl rfl)) ej_int (fun _ _ => rfl)) (aj_cons (ej_ix o_ix (ej_v 2 (hv := Or.inl rfl)) ej_int (fun _ _ => rfl)) aj_nil))) (aj_cons (ej_callB (b_min2 rfl) rfl m_min (by decide +kernel) (aj_cons (ej_ix o_ix (ej_v 1 (hv := Or.inl rfl)) ej_int (fun _ _ => rfl)) (aj_cons (ej_ix o_ix (ej_v 2 (hv := Or.inl rfl)) ej_int (fun _ _ => rfl)) aj_nil))) aj_nil))))) bj_nil) (bj_cons (sj_if (tj_cmp (o_eq hr.u64) (ej_v 0 (hv := Or.inl rfl)) ej_str (nomark _)) (bj_one (sj_ret (ej_tup (aj_cons (ej_callB (b_max2 rfl) rfl m_max (by decide +kernel) (aj_cons (ej_ix o_ix (ej_v 1 (hv := Or.inl rfl)) ej_int (fun _ _ => rfl)) (aj_cons (ej_ix o_ix (ej_v 2 (hv := Or.inl rfl)) ej_int (fun _ _ => rfl)) aj_nil))) (aj_cons (ej_callB (b_max2 rfl) rfl m_max (by decide +kernel) (aj_cons (ej_ix o_ix (ej_v 1 (hv := Or.inl rfl)) ej_int (fun _ _ => rfl)) (aj_cons (ej_ix o_ix (ej_v 2 (hv := Or.inl rfl)) ej_int (fun _ _ => rfl)) aj_nil))) aj_nil))))) bj_nil) (bj_one (sj_ret (ej_tup (aj_cons (ej_callB (b_min2 rfl) rfl m_min (by decide +kernel) (aj_cons (ej_ix o_ix (ej_v 1 (hv := Or.inl rfl)) ej_int (fun _ _ => rfl)) (aj_cons (ej_ix o_ix (ej_v 2 (hv := Or.inl rfl)) ej_int (fun _ _ => rfl)) aj_nil))) (aj_cons (ej_callB (b_max2 rfl) rfl m_max (by decide +kernel) (aj_cons (ej_ix o_ix (ej_v 1 (hv := Or.inl rfl)) ej_int (fun _ _ => rfl)) (aj_cons (ej_ix o_ix (ej_v 2 (hv := Or.inl rfl)) ej_int (fun _ _ => rfl)) aj_nil))) aj_nil)))))))))) real
abbrev s_span : Stmt := topS 3
abbrev N_span : List Str := ["expression", "word", "ends", "far", "end"]
theorem sc_span : FnScope N_span ["expression"] (defScope s_span) := ⟨rfl, rfl, rfl, by decide +kernel, rfl, by decide +kernel, by decide +kernel⟩
theorem ok_span {f : Addr} {fd : FuncData} {k : Nat} {con k_span k_span_of_pair : Con} (F : FunD K "span" "span" (defArgs s_span) (defBody s_span) (defScope s_span) [] [] f fd) (h_span : Cal P w K mg base k "span" ["expression"] k_span) (h_span_of_pair : Cal P w K mg base 1 "span_of_pair" ["word", "one", "other"] k_span_of_pair) (m_max : mg "max" = none) (m_min : mg "min" = none) (m_abs : mg "abs" = none) (g_MOST_FIGURE : GC K mg "MOST_FIGURE" d_MOST_FIGURE) (hk : 1 ≤ k) (len : ∀ ds S r, con ds S = some r → ds.length = 1)
    (real : ∀ ds S v S', WfS S → belowL S.length ds = true → con ds S = some (v, S') → ∃ o, b_span k_span k_span_of_pair (sE 5 ds) S = some o ∧ Fin o v S' ∧ WfS S' ∧ S.length ≤ S'.length) : FnG P w K mg base (k + 1) f fd ["expression"] con :=
  fn_ok (b := b_span k_span k_span_of_pair) F sc_span len (fun cdv A outer s H E hr => (bj_cons (sj_set (i := 1) sc_span.nd rfl (Or.inl rfl) (ej_ix o_ix (ej_v 0 (hv := Or.inr (Or.inl rfl))) ej_int (fun _ _ => rfl))) (bj_cons (sj_if (tj_cmp (o_eq hr.u64) (ej_v 1 (hv := Or.inl rfl)) ej_str (nomark _)) (bj_one (sj_ret (ej_tup (aj_cons (ej_ix o_ix (ej_v 0 (hv := Or.inr (Or.inl rfl))) ej_int (fun _ _ => rfl)) (aj_cons (ej_ix o_ix (ej_v 0 (hv := Or.inr (Or.inl rfl))) ej_int (fun _ _ => rfl)) aj_nil))))) bj_nil) (bj_cons (sj_if (tj_cmp (o_in hr.u65) (ej_v 1 (hv := Or.inl rfl)) (ej_tup (aj_cons ej_str (aj_cons ej_str aj_nil))) rfl) (bj_one (sj_ret (ej_if (tj_cmp (o_eq hr.u64) (ej_v 1 (hv := Or.inl rfl)) ej_str (nomark _)) (ej_tup (aj_cons (ej_un o_neg (ej_gc g_MOST_FIGURE rfl)) (aj_cons (ej_gc g_MOST_FIGURE rfl) aj_nil))) (ej_tup (aj_cons ej_int (aj_cons ej_int aj_nil)))))) bj_nil) (bj_cons (sj_if (tj_cmp (o_eq hr.u64) (ej_v 1 (hv := Or.inl rfl)) ej_str (nomark _)) (bj_cons (sj_setLc (i := 2) (own := [("end", 4)]) false rfl sc_span.nd rfl rfl (sw_true rfl rfl rfl (by decide +kernel)) (ij_seq (ej_own h_span hr rfl (aj_cons (ej_ix o_ix (ej_v 0 (hv := Or.inr (Or.inl rfl))) ej_int (fun _ _ => rfl)) aj_nil))) (blkOk_by (N := N_span) (sc := defScope s_span) (by decide +kernel)) (fun _ _ _ _ _ => (gj_name (i := 4) sc_span.nd rfl (Or.inl rfl))) (fun _ _ _ _ _ => tsj_nil) (fun _ _ _ _ _ => (ej_op o_mul (ej_ix o_ix (ej_v 0 (hv := Or.inr (Or.inl rfl))) ej_int (fun _ _ => rfl)) (ej_v 4 (hv := Or.inl rfl)))) (by decide)) (bj_one (sj_ret (ej_tup (aj_cons (ej_callB (b_min1 rfl) rfl m_min (by decide +kernel) (aj_cons (ej_v 2 (hv := Or.inl rfl)) aj_nil)) (aj_cons (ej_callB (b_max1 rfl) rfl m_max (by decide +kernel) (aj_cons (ej_v 2 (hv := Or.inl rfl)) aj_nil)) aj_nil)))))) bj_nil) (bj_cons (sj_if (tj_cmp (o_eq hr.u64) (ej_v 1 (hv := Or.inl rfl)) ej_str (nomark _)) (bj_cons (sj_set (i := 3) sc_span.nd rfl (Or.inl rfl) (ej_callB (b_max1 rfl) rfl m_max (by decide +kernel) (aj_cons (ej_fz (lj_lc (own := [("end", 4)]) rfl sc_span.nd (ij_seq (ej_own h_span hr rfl (aj_cons (ej_ix o_ix (ej_v 0 (hv := Or.inr (Or.inl rfl))) ej_int (fun _ _ => rfl)) aj_nil))) (blkOk_by (N := N_span) (sc := defScope s_span) (by decide +kernel)) (fun _ _ _ _ _ => (gj_name (i := 4) sc_span.nd rfl (Or.inl rfl))) (fun _ _ _ _ _ => tsj_nil) (fun _ _ _ _ _ => (ej_callB b_abs rfl m_abs (by decide +kernel) (aj_cons (ej_v 4 (hv := Or.inl rfl)) aj_nil))) (by decide))) aj_nil))) (bj_one (sj_ret (ej_tup (aj_cons (ej_op o_mul (ej_un o_neg (ej_gc g_MOST_FIGURE rfl)) (ej_v 3 (hv := Or.inl rfl))) (aj_cons (ej_op o_mul (ej_gc g_MOST_FIGURE rfl) (ej_v 3 (hv := Or.inl rfl))) aj_nil)))))) bj_nil) (bj_one (sj_ret (ej_own h_span_of_pair (hr.mono (by omega)) rfl (aj_cons (ej_v 1 (hv := Or.inl rfl)) (aj_cons (ej_own h_span hr rfl (aj_cons (ej_ix o_ix (ej_v 0 (hv := Or.inr (Or.inl rfl))) (ej_un o_neg ej_int) (fun _ _ => rfl)) aj_nil)) (aj_cons (ej_own h_span hr rfl (aj_cons (ej_ix o_ix (ej_v 0 (hv := Or.inr (Or.inl rfl))) (ej_un o_neg ej_int) (fun _ _ => rfl)) aj_nil)) aj_nil)))))))))))) real
abbrev s_bound : Stmt := topS 7
abbrev N_bound : List Str := ["doubter", "far", "end", "stake"]
theorem sc_bound : FnScope N_bound ["doubter"] (defScope s_bound) := ⟨rfl, rfl, rfl, by decide +kernel, rfl, by decide +kernel, by decide +kernel⟩
theorem ok_bound {f : Addr} {fd : FuncData} {con k_span : Con} (F : FunD K "bound" "bound" (defArgs s_bound) (defBody s_bound) (defScope s_bound) [] [] f fd) (h_span : Cal P w K mg base 10 "span" ["expression"] k_span) (m_max : mg "max" = none) (m_abs : mg "abs" = none) (g_SCALES : GC K mg "SCALES" d_SCALES) (len : ∀ ds S r, con ds S = some r → ds.length = 1)
    (real : ∀ ds S v S', WfS S → belowL S.length ds = true → con ds S = some (v, S') → ∃ o, b_bound k_span (sE 4 ds) S = some o ∧ Fin o v S' ∧ WfS S' ∧ S.length ≤ S'.length) : FnG P w K mg base (10 + 1) f fd ["doubter"] con :=
  fn_ok (b := b_bound k_span) F sc_bound len (fun cdv A outer s H E hr => (bj_cons (sj_set (i := 1) sc_bound.nd rfl (Or.inl rfl) (ej_callB (b_max1 rfl) rfl m_max (by decide +kernel) (aj_cons (ej_fz (lj_lc2 (own := [("stake", 3), ("end", 2)]) (vs1 := [2]) rfl sc_bound.nd (ij_seq (ej_ix o_ix (ej_v 0 (hv := Or.inl rfl)) ej_int (fun _ _ => rfl))) (blkOk_by (N := N_bound) (sc := defScope s_bound) (by decide +kernel)) (by decide) (fun _ _ _ _ _ => (gj_name (i := 3) sc_bound.nd rfl (Or.inl rfl))) (fun _ _ _ _ _ => (ej_own h_span (hr.mono (by decide)) rfl (aj_cons (ej_v 3 (hv := Or.inl rfl)) aj_nil))) (fun _ _ _ _ _ => (gj_name (i := 2) sc_bound.nd rfl (Or.inl rfl))) (fun _ _ _ _ _ => (ej_callB b_abs rfl m_abs (by decide +kernel) (aj_cons (ej_v 2 (hv := Or.inl rfl)) aj_nil))) (by decide) (by decide))) aj_nil))) (bj_one (sj_ret (ej_callB (b_max2 rfl) rfl m_max (by decide +kernel) (aj_cons ej_int (aj_cons (ej_un o_neg (ej_op o_div (ej_un o_neg (ej_v 1 (hv := Or.inl rfl))) (ej_ix o_ix (ej_gc g_SCALES rfl) (ej_ix o_ix (ej_v 0 (hv := Or.inl rfl)) ej_int (fun _ _ => rfl)) (fun _ _ => rfl)))) aj_nil))))))) real
abbrev s_off : Stmt := topS 10
abbrev N_off : List Str := ["one"]
theorem sc_off : FnScope N_off ["one"] (defScope s_off) := ⟨rfl, rfl, rfl, by decide +kernel, rfl, by decide +kernel, by decide +kernel⟩
theorem ok_off {f : Addr} {fd : FuncData} {con k_bound : Con} (F : FunD K "off" "off" (defArgs s_off) (defBody s_off) (defScope s_off) [] [] f fd) (h_bound : Cal P w K mg base 11 "bound" ["doubter"] k_bound) (g_MOST_STAKE : GC K mg "MOST_STAKE" d_MOST_STAKE) (g_PARTS : GC K mg "PARTS" d_PARTS) (len : ∀ ds S r, con ds S = some r → ds.length = 1)
    (real : ∀ ds S v S', WfS S → belowL S.length ds = true → con ds S = some (v, S') → ∃ o, b_off k_bound (sE 1 ds) S = some o ∧ Fin o v S' ∧ WfS S' ∧ S.length ≤ S'.length) : FnG P w K mg base (11 + 1) f fd ["one"] con :=
  fn_ok (b := b_off k_bound) F sc_off len (fun cdv A outer s H E hr => (bj_one (sj_ret (ej_op o_div (ej_op o_mul (ej_gc g_MOST_STAKE rfl) (ej_ix o_ix (ej_v 0 (hv := Or.inl rfl)) ej_int (fun _ _ => rfl))) (ej_op o_mul (ej_gc g_PARTS rfl) (ej_own h_bound (hr.mono (by decide)) rfl (aj_cons (ej_ix o_ix (ej_v 0 (hv := Or.inl rfl)) ej_int (fun _ _ => rfl)) aj_nil))))))) real
abbrev s_power : Stmt := topS 11
abbrev N_power : List Str := ["base", "count", "found"]
theorem sc_power : FnScope N_power ["base", "count"] (defScope s_power) := ⟨rfl, rfl, rfl, by decide +kernel, rfl, by decide +kernel, by decide +kernel⟩
theorem ok_power {f : Addr} {fd : FuncData} {con : Con} (F : FunD K "power" "power" (defArgs s_power) (defBody s_power) (defScope s_power) [] [] f fd) (len : ∀ ds S r, con ds S = some r → ds.length = 2)
    (real : ∀ ds S v S', WfS S → belowL S.length ds = true → con ds S = some (v, S') → ∃ o, b_power (sE 3 ds) S = some o ∧ Fin o v S' ∧ WfS S' ∧ S.length ≤ S'.length) : FnG P w K mg base (0 + 1) f fd ["base", "count"] con :=
  fn_ok (b := b_power) F sc_power len (fun cdv A outer s H E hr => (bj_cons (sj_set (i := 2) sc_power.nd rfl (Or.inl rfl) ej_int) (bj_cons (sj_while PassesOwn.never (tj_cmp o_gt (ej_v 1 (hv := Or.inl rfl)) ej_int (nomark _)) (bj_cons (sj_if (tj_cmp (o_eq hr.u64) (ej_op o_mod (ej_v 1 (hv := Or.inl rfl)) ej_int) ej_int (nomark _)) (bj_one (sj_set (i := 2) sc_power.nd rfl (Or.inl rfl) (ej_op o_mul (ej_v 2 (hv := Or.inl rfl)) (ej_v 0 (hv := Or.inl rfl))))) bj_nil) (bj_one (sj_par (i := 0) (j := 1) rfl sc_power.nd rfl rfl (by decide) rfl rfl (aj_cons (ej_op o_mul (ej_v 0 (hv := Or.inl rfl)) (ej_v 0 (hv := Or.inl rfl))) (aj_cons (ej_op o_div (ej_v 1 (hv := Or.inl rfl)) ej_int) aj_nil)) rfl)))) (bj_one (sj_ret (ej_v 2 (hv := Or.inl rfl))))))) real
abbrev s_is_borne : Stmt := topS 12
abbrev N_is_borne : List Str := ["by", "count", "weight", "held", "most", "made"]
theorem sc_is_borne : FnScope N_is_borne ["by", "count", "weight", "held", "most"] (defScope s_is_borne) := ⟨rfl, rfl, rfl, by decide +kernel, rfl, by decide +kernel, by decide +kernel⟩
theorem ok_is_borne {f : Addr} {fd : FuncData} {con k_power : Con} (F : FunD K "is_borne" "is_borne" (defArgs s_is_borne) (defBody s_is_borne) (defScope s_is_borne) [] [] f fd) (h_power : Cal P w K mg base 1 "power" ["base", "count"] k_power) (g_MOST_STAKE : GC K mg "MOST_STAKE" d_MOST_STAKE) (len : ∀ ds S r, con ds S = some r → ds.length = 5)
    (real : ∀ ds S v S', WfS S → belowL S.length ds = true → con ds S = some (v, S') → ∃ o, b_is_borne k_power (sE 6 ds) S = some o ∧ Fin o v S' ∧ WfS S' ∧ S.length ≤ S'.length) : FnG P w K mg base (1 + 1) f fd ["by", "count", "weight", "held", "most"] con :=
  fn_ok (b := b_is_borne k_power) F sc_is_borne len (fun cdv A outer s H E hr => (bj_cons (sj_set (i := 5) sc_is_borne.nd rfl (Or.inl rfl) (ej_op o_mul (ej_op o_mul (ej_op o_mul (ej_own h_power (hr.mono (by decide)) rfl (aj_cons (ej_op o_add (ej_gc g_MOST_STAKE rfl) (ej_v 0 (hv := Or.inl rfl))) (aj_cons (ej_op o_add (ej_v 1 (hv := Or.inl rfl)) (ej_v 4 (hv := Or.inl rfl))) aj_nil))) (ej_own h_power (hr.mono (by decide)) rfl (aj_cons (ej_op o_sub (ej_gc g_MOST_STAKE rfl) (ej_v 0 (hv := Or.inl rfl))) (aj_cons (ej_op o_sub (ej_v 1 (hv := Or.inl rfl)) (ej_v 4 (hv := Or.inl rfl))) aj_nil)))) (ej_v 2 (hv := Or.inl rfl))) (ej_v 2 (hv := Or.inl rfl)))) (bj_one (sj_ret (ej_cmp o_le (ej_v 5 (hv := Or.inl rfl)) (ej_op o_mul (ej_op o_mul (ej_own h_power (hr.mono (by decide)) rfl (aj_cons (ej_gc g_MOST_STAKE rfl) (aj_cons (ej_op o_mul ej_int (ej_v 1 (hv := Or.inl rfl))) aj_nil))) (ej_v 3 (hv := Or.inl rfl))) (ej_v 3 (hv := Or.inl rfl))) (nomark _)))))) real
abbrev s_most_off : Stmt := topS 13
abbrev N_most_off : List Str := ["far", "days", "weight", "held", "low", "high", "amid"]
theorem sc_most_off : FnScope N_most_off ["far", "days", "weight", "held"] (defScope s_most_off) := ⟨rfl, rfl, rfl, by decide +kernel, rfl, by decide +kernel, by decide +kernel⟩
theorem ok_most_off {f : Addr} {fd : FuncData} {con k_is_borne : Con} (F : FunD K "most_off" "most_off" (defArgs s_most_off) (defBody s_most_off) (defScope s_most_off) [] [] f fd) (h_is_borne : Cal P w K mg base 2 "is_borne" ["by", "count", "weight", "held", "most"] k_is_borne) (len : ∀ ds S r, con ds S = some r → ds.length = 4)
    (real : ∀ ds S v S', WfS S → belowL S.length ds = true → con ds S = some (v, S') → ∃ o, b_most_off k_is_borne (sE 7 ds) S = some o ∧ Fin o v S' ∧ WfS S' ∧ S.length ≤ S'.length) : FnG P w K mg base (2 + 1) f fd ["far", "days", "weight", "held"] con :=
  fn_ok (b := b_most_off k_is_borne) F sc_most_off len (fun cdv A outer s H E hr => (bj_cons (sj_par (i := 4) (j := 5) rfl sc_most_off.nd rfl rfl (by decide) rfl rfl (aj_cons (ej_op o_sub (ej_un o_neg (ej_v 1 (hv := Or.inl rfl))) ej_int) (aj_cons (ej_v 1 (hv := Or.inl rfl)) aj_nil)) rfl) (bj_cons (sj_while PassesOwn.never (tj_cmp o_lt (ej_v 4 (hv := Or.inl rfl)) (ej_v 5 (hv := Or.inl rfl)) (nomark _)) (bj_cons (sj_set (i := 6) sc_most_off.nd rfl (Or.inl rfl) (ej_op o_div (ej_op o_add (ej_op o_add (ej_v 4 (hv := Or.inl rfl)) (ej_v 5 (hv := Or.inl rfl))) ej_int) ej_int)) (bj_one (sj_if (tj_val (ej_own h_is_borne (hr.mono (by decide)) rfl (aj_cons (ej_v 0 (hv := Or.inl rfl)) (aj_cons (ej_v 1 (hv := Or.inl rfl)) (aj_cons (ej_v 2 (hv := Or.inl rfl)) (aj_cons (ej_v 3 (hv := Or.inl rfl)) (aj_cons (ej_v 6 (hv := Or.inl rfl)) aj_nil))))))) (bj_one (sj_set (i := 4) sc_most_off.nd rfl (Or.inl rfl) (ej_v 6 (hv := Or.inl rfl)))) (bj_one (sj_set (i := 5) sc_most_off.nd rfl (Or.inl rfl) (ej_op o_sub (ej_v 6 (hv := Or.inl rfl)) ej_int))))))) (bj_one (sj_ret (ej_if (tj_cmp o_ge (ej_v 4 (hv := Or.inl rfl)) (ej_un o_neg (ej_v 1 (hv := Or.inl rfl))) (nomark _)) (ej_v 4 (hv := Or.inl rfl)) ej_non)))))) real
abbrev s_sure : Stmt := topS 14
abbrev N_sure : List Str := ["one"]
theorem sc_sure : FnScope N_sure ["one"] (defScope s_sure) := ⟨rfl, rfl, rfl, by decide +kernel, rfl, by decide +kernel, by decide +kernel⟩
theorem ok_sure {f : Addr} {fd : FuncData} {con k_most_off k_bound : Con} (F : FunD K "sure" "sure" (defArgs s_sure) (defBody s_sure) (defScope s_sure) [] [] f fd) (h_most_off : Cal P w K mg base 3 "most_off" ["far", "days", "weight", "held"] k_most_off) (h_bound : Cal P w K mg base 11 "bound" ["doubter"] k_bound) (len : ∀ ds S r, con ds S = some r → ds.length = 1)
    (real : ∀ ds S v S', WfS S → belowL S.length ds = true → con ds S = some (v, S') → ∃ o, b_sure k_most_off k_bound (sE 1 ds) S = some o ∧ Fin o v S' ∧ WfS S' ∧ S.length ≤ S'.length) : FnG P w K mg base (11 + 1) f fd ["one"] con :=
  fn_ok (b := b_sure k_most_off k_bound) F sc_sure len (fun cdv A outer s H E hr => (bj_one (sj_ret (ej_own h_most_off (hr.mono (by decide)) rfl (aj_cons (ej_own h_bound (hr.mono (by decide)) rfl (aj_cons (ej_ix o_ix (ej_v 0 (hv := Or.inl rfl)) ej_int (fun _ _ => rfl)) aj_nil)) (aj_cons (ej_ix o_ix (ej_v 0 (hv := Or.inl rfl)) ej_int (fun _ _ => rfl)) (aj_cons (ej_ix o_ix (ej_v 0 (hv := Or.inl rfl)) ej_int (fun _ _ => rfl)) (aj_cons (ej_op o_add (ej_ix o_ix (ej_v 0 (hv := Or.inl rfl)) ej_int (fun _ _ => rfl)) (ej_ix o_ix (ej_v 0 (hv := Or.inl rfl)) ej_int (fun _ _ => rfl))) aj_nil)))))))) real
abbrev s__law_hand : Stmt := topS 16
abbrev N__law_hand : List Str := ["_law_script", "_law_k", "_law_cell", "_law_great"]
theorem sc__law_hand : FnScope N__law_hand ["_law_script", "_law_k"] (defScope s__law_hand) := ⟨rfl, rfl, rfl, by decide +kernel, rfl, by decide +kernel, by decide +kernel⟩
theorem ok__law_hand {f : Addr} {fd : FuncData} {con : Con} (F : FunD K "_law_hand" "_law_hand" (defArgs s__law_hand) (defBody s__law_hand) (defScope s__law_hand) [] [] f fd) (m_len : mg "len" = none) (m_abs : mg "abs" = none) (m_int : mg "int" = none) (len : ∀ ds S r, con ds S = some r → ds.length = 2)
    (real : ∀ ds S v S', WfS S → belowL S.length ds = true → con ds S = some (v, S') → ∃ o, b__law_hand (sE 4 ds) S = some o ∧ Fin o v S' ∧ WfS S' ∧ S.length ≤ S'.length) : FnG P w K mg base (0 + 1) f fd ["_law_script", "_law_k"] con :=
  fn_ok (b := b__law_hand) F sc__law_hand len (fun cdv A outer s H E hr => (bj_cons (sj_set (i := 2) sc__law_hand.nd rfl (Or.inl rfl) (ej_if (tj_cmp o_lt (ej_v 1 (hv := Or.inl rfl)) (ej_callB b_len rfl m_len (by decide +kernel) (aj_cons (ej_v 0 (hv := Or.inl rfl)) aj_nil)) (nomark _)) (ej_ix o_ix (ej_v 0 (hv := Or.inl rfl)) (ej_v 1 (hv := Or.inl rfl)) (fun _ _ => rfl)) ej_int)) (bj_cons (sj_set (i := 3) sc__law_hand.nd rfl (Or.inl rfl) (ej_op o_mul (ej_op o_mod (ej_callB b_abs rfl m_abs (by decide +kernel) (aj_cons (ej_v 2 (hv := Or.inl rfl)) aj_nil)) (ej_op o_mul (ej_op o_pow ej_int ej_int) (ej_op o_pow ej_int ej_int))) (ej_callT b_int rfl m_int (by decide +kernel) (aj_cons (ej_cmp o_ge (ej_callB b_abs rfl m_abs (by decide +kernel) (aj_cons (ej_v 2 (hv := Or.inl rfl)) aj_nil)) (ej_op o_pow ej_int ej_int) (nomark _)) aj_nil)))) (bj_one (sj_ret (ej_bx (lj_disp (aj_cons (ej_v 3 (hv := Or.inl rfl)) (aj_cons (ej_op o_add (ej_op o_add (ej_op o_mod (ej_v 2 (hv := Or.inl rfl)) ej_int) (ej_op o_mul ej_int (ej_v 1 (hv := Or.inl rfl)))) ej_int) (aj_cons ej_int aj_nil)))))))))) real
abbrev s__law_take : Stmt := topS 17
abbrev N__law_take : List Str := ["_law_hand_here", "_law_many", "_law_primes", "_law_prime", "_law_drawn", "_law_digit"]
theorem sc__law_take : FnScope N__law_take ["_law_hand_here", "_law_many"] (defScope s__law_take) := ⟨rfl, rfl, rfl, by decide +kernel, rfl, by decide +kernel, by decide +kernel⟩
theorem ok__law_take {f : Addr} {fd : FuncData} {con : Con} (F : FunD K "_law_take" "_law_take" (defArgs s__law_take) (defBody s__law_take) (defScope s__law_take) [] [] f fd) (len : ∀ ds S r, con ds S = some r → ds.length = 2)
    (real : ∀ ds S v S', WfS S → belowL S.length ds = true → con ds S = some (v, S') → ∃ o, b__law_take (sE 6 ds) S = some o ∧ Fin o v S' ∧ WfS S' ∧ S.length ≤ S'.length) : FnG P w K mg base (0 + 1) f fd ["_law_hand_here", "_law_many"] con :=
  fn_ok (b := b__law_take) F sc__law_take len (fun cdv A outer s H E hr => (bj_cons (sj_if (tj_cmp o_gt (ej_ix o_ix (ej_v 0 (hv := Or.inl rfl)) ej_int (fun _ _ => rfl)) ej_int (nomark _)) (bj_cons (sj_set (i := 5) sc__law_take.nd rfl (Or.inl rfl) (ej_op o_mod (ej_ix o_ix (ej_v 0 (hv := Or.inl rfl)) ej_int (fun _ _ => rfl)) (ej_v 1 (hv := Or.inl rfl)))) (bj_cons (sj_asg (ej_op o_div (ej_ix o_ix (ej_v 0 (hv := Or.inl rfl)) ej_int (fun _ _ => rfl)) (ej_v 1 (hv := Or.inl rfl))) (gj_sub (ej_v 0 (hv := Or.inl rfl)) ej_int)) (bj_one (sj_ret (ej_v 5 (hv := Or.inl rfl)))))) bj_nil) (bj_cons (sj_asg (ej_op o_add (ej_ix o_ix (ej_v 0 (hv := Or.inl rfl)) ej_int (fun _ _ => rfl)) ej_int) (gj_sub (ej_v 0 (hv := Or.inl rfl)) ej_int)) (bj_cons (sj_set (i := 2) sc__law_take.nd rfl (Or.inl rfl) (ej_fz (lj_disp (aj_cons ej_int (aj_cons ej_int (aj_cons ej_int (aj_cons ej_int (aj_cons ej_int (aj_cons ej_int (aj_cons ej_int (aj_cons ej_int aj_nil))))))))))) (bj_cons (sj_set (i := 3) sc__law_take.nd rfl (Or.inl rfl) (ej_ix o_ix (ej_v 2 (hv := Or.inl rfl)) (ej_op o_mod (ej_ix o_ix (ej_v 0 (hv := Or.inl rfl)) ej_int (fun _ _ => rfl)) ej_int) (fun _ _ => rfl))) (bj_cons (sj_set (i := 4) sc__law_take.nd rfl (Or.inl rfl) (ej_op o_add (ej_op o_mod (ej_op o_mod (ej_op o_add (ej_ix o_ix (ej_v 0 (hv := Or.inl rfl)) ej_int (fun _ _ => rfl)) (ej_op o_mul (ej_op o_mul ej_int (ej_ix o_ix (ej_v 0 (hv := Or.inl rfl)) ej_int (fun _ _ => rfl))) (ej_ix o_ix (ej_v 0 (hv := Or.inl rfl)) ej_int (fun _ _ => rfl)))) (ej_op o_pow (ej_v 3 (hv := Or.inl rfl)) ej_int)) (ej_v 3 (hv := Or.inl rfl))) ej_int)) (bj_one (sj_ret (ej_op o_mod (ej_op o_div (ej_op o_mod (ej_op o_mul (ej_v 4 (hv := Or.inl rfl)) (ej_op o_add (ej_op o_mod (ej_v 4 (hv := Or.inl rfl)) ej_int) (ej_ix o_ix (ej_v 0 (hv := Or.inl rfl)) ej_int (fun _ _ => rfl)))) (ej_v 3 (hv := Or.inl rfl))) ej_int) (ej_v 1 (hv := Or.inl rfl))))))))))) real
abbrev s__law_of : Stmt := topS 18
abbrev N__law_of : List Str := ["_law_hand_here", "_law_some"]
theorem sc__law_of : FnScope N__law_of ["_law_hand_here", "_law_some"] (defScope s__law_of) := ⟨rfl, rfl, rfl, by decide +kernel, rfl, by decide +kernel, by decide +kernel⟩
theorem ok__law_of {f : Addr} {fd : FuncData} {con k__law_take : Con} (F : FunD K "_law_of" "_law_of" (defArgs s__law_of) (defBody s__law_of) (defScope s__law_of) [] [] f fd) (h__law_take : Cal P w K mg base 1 "_law_take" ["_law_hand_here", "_law_many"] k__law_take) (m_len : mg "len" = none) (len : ∀ ds S r, con ds S = some r → ds.length = 2)
    (real : ∀ ds S v S', WfS S → belowL S.length ds = true → con ds S = some (v, S') → ∃ o, b__law_of k__law_take (sE 2 ds) S = some o ∧ Fin o v S' ∧ WfS S' ∧ S.length ≤ S'.length) : FnG P w K mg base (1 + 1) f fd ["_law_hand_here", "_law_some"] con :=
  fn_ok (b := b__law_of k__law_take) F sc__law_of len (fun cdv A outer s H E hr => (bj_one (sj_ret (ej_ix o_ix (ej_v 1 (hv := Or.inl rfl)) (ej_own h__law_take (hr.mono (by decide)) rfl (aj_cons (ej_v 0 (hv := Or.inl rfl)) (aj_cons (ej_callB b_len rfl m_len (by decide +kernel) (aj_cons (ej_v 1 (hv := Or.inl rfl)) aj_nil)) aj_nil))) (fun _ _ => rfl))))) real
abbrev s__law_figure : Stmt := topS 19
abbrev N__law_figure : List Str := ["_law_hand_here", "_law_some"]
theorem sc__law_figure : FnScope N__law_figure ["_law_hand_here"] (defScope s__law_figure) := ⟨rfl, rfl, rfl, by decide +kernel, rfl, by decide +kernel, by decide +kernel⟩
theorem ok__law_figure {f : Addr} {fd : FuncData} {con k__law_of k__law_take : Con} (F : FunD K "_law_figure" "_law_figure" (defArgs s__law_figure) (defBody s__law_figure) (defScope s__law_figure) [] [] f fd) (h__law_of : Cal P w K mg base 2 "_law_of" ["_law_hand_here", "_law_some"] k__law_of) (h__law_take : Cal P w K mg base 1 "_law_take" ["_law_hand_here", "_law_many"] k__law_take) (len : ∀ ds S r, con ds S = some r → ds.length = 1)
    (real : ∀ ds S v S', WfS S → belowL S.length ds = true → con ds S = some (v, S') → ∃ o, b__law_figure k__law_of k__law_take (sE 2 ds) S = some o ∧ Fin o v S' ∧ WfS S' ∧ S.length ≤ S'.length) : FnG P w K mg base (2 + 1) f fd ["_law_hand_here"] con :=
  fn_ok (b := b__law_figure k__law_of k__law_take) F sc__law_figure len (fun cdv A outer s H E hr => (bj_cons (sj_set (i := 1) sc__law_figure.nd rfl (Or.inl rfl) (ej_fz (lj_disp (aj_cons ej_int (aj_cons ej_int (aj_cons (ej_un o_neg ej_int) (aj_cons ej_int (aj_cons ej_int (aj_cons ej_int (aj_cons ej_int (aj_cons (ej_un o_neg ej_int) (aj_cons ej_int (aj_cons (ej_un o_neg ej_int) aj_nil))))))))))))) (bj_one (sj_ret (ej_own h__law_of (hr.mono (by decide)) rfl (aj_cons (ej_v 0 (hv := Or.inl rfl)) (aj_cons (ej_fz (lj_op o_addL (ej_v 1 (hv := Or.inl rfl)) (ej_fz (lj_disp (aj_cons (ej_op o_sub (ej_own h__law_take (hr.mono (by decide)) rfl (aj_cons (ej_v 0 (hv := Or.inl rfl)) (aj_cons ej_int aj_nil))) ej_int) (aj_cons (ej_op o_sub (ej_own h__law_take (hr.mono (by decide)) rfl (aj_cons (ej_v 0 (hv := Or.inl rfl)) (aj_cons ej_int aj_nil))) ej_int) aj_nil)))))) aj_nil))))))) real
abbrev s__law_registers : Stmt := topS 20
abbrev N__law_registers : List Str := ["_law_hand_here", "_law_turn"]
theorem sc__law_registers : FnScope N__law_registers ["_law_hand_here"] (defScope s__law_registers) := ⟨rfl, rfl, rfl, by decide +kernel, rfl, by decide +kernel, by decide +kernel⟩
theorem ok__law_registers {f : Addr} {fd : FuncData} {con k__law_figure : Con} (F : FunD K "_law_registers" "_law_registers" (defArgs s__law_registers) (defBody s__law_registers) (defScope s__law_registers) [] [] f fd) (h__law_figure : Cal P w K mg base 3 "_law_figure" ["_law_hand_here"] k__law_figure) (m_tuple : mg "tuple" = none) (m_range : mg "range" = none) (len : ∀ ds S r, con ds S = some r → ds.length = 1)
    (real : ∀ ds S v S', WfS S → belowL S.length ds = true → con ds S = some (v, S') → ∃ o, b__law_registers k__law_figure (sE 2 ds) S = some o ∧ Fin o v S' ∧ WfS S' ∧ S.length ≤ S'.length) : FnG P w K mg base (3 + 1) f fd ["_law_hand_here"] con :=
  fn_ok (b := b__law_registers k__law_figure) F sc__law_registers len (fun cdv A outer s H E hr => (bj_one (sj_ret (ej_callT b_tuple rfl m_tuple (by decide +kernel) (aj_cons (ej_fz (lj_lc (own := [("_law_turn", 1)]) rfl sc__law_registers.nd (ij_rg1 rfl m_range ej_int) (blkOk_by (N := N__law_registers) (sc := defScope s__law_registers) (by decide +kernel)) (fun _ _ _ _ _ => (gj_name (i := 1) sc__law_registers.nd rfl (Or.inl rfl))) (fun _ _ _ _ _ => tsj_nil) (fun _ _ _ _ _ => (ej_own h__law_figure (hr.mono (by decide)) rfl (aj_cons (ej_v 0 (hv := Or.inr (Or.inl rfl))) aj_nil))) (by decide))) aj_nil))))) real
abbrev s__law_leaf : Stmt := topS 21
abbrev N__law_leaf : List Str := ["_law_hand_here", "_law_many", "_law_sort"]
theorem sc__law_leaf : FnScope N__law_leaf ["_law_hand_here", "_law_many"] (defScope s__law_leaf) := ⟨rfl, rfl, rfl, by decide +kernel, rfl, by decide +kernel, by decide +kernel⟩
theorem ok__law_leaf {f : Addr} {fd : FuncData} {con k__law_take k__law_figure : Con} (F : FunD K "_law_leaf" "_law_leaf" (defArgs s__law_leaf) (defBody s__law_leaf) (defScope s__law_leaf) [] [] f fd) (h__law_take : Cal P w K mg base 1 "_law_take" ["_law_hand_here", "_law_many"] k__law_take) (h__law_figure : Cal P w K mg base 3 "_law_figure" ["_law_hand_here"] k__law_figure) (len : ∀ ds S r, con ds S = some r → ds.length = 2)
    (real : ∀ ds S v S', WfS S → belowL S.length ds = true → con ds S = some (v, S') → ∃ o, b__law_leaf k__law_take k__law_figure (sE 3 ds) S = some o ∧ Fin o v S' ∧ WfS S' ∧ S.length ≤ S'.length) : FnG P w K mg base (3 + 1) f fd ["_law_hand_here", "_law_many"] con :=
  fn_ok (b := b__law_leaf k__law_take k__law_figure) F sc__law_leaf len (fun cdv A outer s H E hr => (bj_cons (sj_set (i := 2) sc__law_leaf.nd rfl (Or.inl rfl) (ej_own h__law_take (hr.mono (by decide)) rfl (aj_cons (ej_v 0 (hv := Or.inl rfl)) (aj_cons ej_int aj_nil)))) (bj_cons (sj_if (tj_cmp (o_eq hr.u64) (ej_v 2 (hv := Or.inl rfl)) ej_int (nomark _)) (bj_one (sj_ret (ej_tup (aj_cons ej_str (aj_cons (ej_own h__law_take (hr.mono (by decide)) rfl (aj_cons (ej_v 0 (hv := Or.inl rfl)) (aj_cons ej_int aj_nil))) aj_nil))))) bj_nil) (bj_one (sj_ret (ej_if (tj_cmp (o_eq hr.u64) (ej_v 2 (hv := Or.inl rfl)) ej_int (nomark _)) (ej_tup (aj_cons ej_str (aj_cons (ej_own h__law_figure (hr.mono (by decide)) rfl (aj_cons (ej_v 0 (hv := Or.inl rfl)) aj_nil)) aj_nil))) (ej_tup (aj_cons ej_str (aj_cons (ej_own h__law_take (hr.mono (by decide)) rfl (aj_cons (ej_v 0 (hv := Or.inl rfl)) (aj_cons (ej_v 1 (hv := Or.inl rfl)) aj_nil))) aj_nil))))))))) real
abbrev s__law_expression : Stmt := topS 22
abbrev N__law_expression : List Str := ["_law_hand_here", "_law_many", "_law_level", "_law_jumps", "_law_words", "_law_word", "_law_one_here", "_law_other", "_law_thousandth"]
theorem sc__law_expression : FnScope N__law_expression ["_law_hand_here", "_law_many", "_law_level", "_law_jumps"] (defScope s__law_expression) := ⟨rfl, rfl, rfl, by decide +kernel, rfl, by decide +kernel, by decide +kernel⟩
theorem ok__law_expression {f : Addr} {fd : FuncData} {k : Nat} {con k__law_of k__law_leaf k__law_expression k__law_take k__law_figure : Con} (F : FunD K "_law_expression" "_law_expression" (defArgs s__law_expression) (defBody s__law_expression) (defScope s__law_expression) [] [] f fd) (h__law_of : Cal P w K mg base 2 "_law_of" ["_law_hand_here", "_law_some"] k__law_of) (h__law_leaf : Cal P w K mg base 4 "_law_leaf" ["_law_hand_here", "_law_many"] k__law_leaf) (h__law_expression : Cal P w K mg base k "_law_expression" ["_law_hand_here", "_law_many", "_law_level", "_law_jumps"] k__law_expression) (h__law_take : Cal P w K mg base 1 "_law_take" ["_law_hand_here", "_law_many"] k__law_take) (h__law_figure : Cal P w K mg base 3 "_law_figure" ["_law_hand_here"] k__law_figure) (hk : 4 ≤ k) (len : ∀ ds S r, con ds S = some r → ds.length = 4)
    (real : ∀ ds S v S', WfS S → belowL S.length ds = true → con ds S = some (v, S') → ∃ o, b__law_expression k__law_of k__law_leaf k__law_expression k__law_take k__law_figure (sE 9 ds) S = some o ∧ Fin o v S' ∧ WfS S' ∧ S.length ≤ S'.length) : FnG P w K mg base (k + 1) f fd ["_law_hand_here", "_law_many", "_law_level", "_law_jumps"] con :=
  fn_ok (b := b__law_expression k__law_of k__law_leaf k__law_expression k__law_take k__law_figure) F sc__law_expression len (fun cdv A outer s H E hr => (bj_cons (sj_set (i := 4) sc__law_expression.nd rfl (Or.inl rfl) (ej_fz (lj_disp (aj_cons ej_str (aj_cons ej_str (aj_cons ej_str (aj_cons ej_str (aj_cons ej_str (aj_cons ej_str (aj_cons ej_str (aj_cons ej_str (aj_cons ej_str (aj_cons ej_str aj_nil))))))))))))) (bj_cons (sj_set (i := 4) sc__law_expression.nd rfl (Or.inl rfl) (ej_fz (lj_op o_addL (ej_v 4 (hv := Or.inl rfl)) (ej_fz (lj_op o_mulL (ej_fz (lj_disp (aj_cons ej_str (aj_cons ej_str aj_nil)))) (ej_v 3 (hv := Or.inl rfl))))))) (bj_cons (sj_set (i := 5) sc__law_expression.nd rfl (Or.inl rfl) (ej_if (tj_cmp (o_eq hr.u64) (ej_v 2 (hv := Or.inl rfl)) ej_int (nomark _)) ej_str (ej_own h__law_of (hr.mono (by omega)) rfl (aj_cons (ej_v 0 (hv := Or.inl rfl)) (aj_cons (ej_v 4 (hv := Or.inl rfl)) aj_nil))))) (bj_cons (sj_if (tj_cmp (o_eq hr.u64) (ej_v 5 (hv := Or.inl rfl)) ej_str (nomark _)) (bj_one (sj_ret (ej_own h__law_leaf (hr.mono (by omega)) rfl (aj_cons (ej_v 0 (hv := Or.inl rfl)) (aj_cons (ej_v 1 (hv := Or.inl rfl)) aj_nil))))) bj_nil) (bj_cons (sj_set (i := 6) sc__law_expression.nd rfl (Or.inl rfl) (ej_own h__law_expression hr rfl (aj_cons (ej_v 0 (hv := Or.inl rfl)) (aj_cons (ej_v 1 (hv := Or.inl rfl)) (aj_cons (ej_op o_sub (ej_v 2 (hv := Or.inl rfl)) ej_int) (aj_cons (ej_v 3 (hv := Or.inl rfl)) aj_nil)))))) (bj_cons (sj_if (tj_cmp (o_eq hr.u64) (ej_v 5 (hv := Or.inl rfl)) ej_str (nomark _)) (bj_one (sj_ret (ej_tup (aj_cons (ej_v 5 (hv := Or.inl rfl)) (aj_cons (ej_op o_sub (ej_own h__law_take (hr.mono (by omega)) rfl (aj_cons (ej_v 0 (hv := Or.inl rfl)) (aj_cons ej_int aj_nil))) ej_int) (aj_cons (ej_v 6 (hv := Or.inl rfl)) aj_nil)))))) bj_nil) (bj_cons (sj_if (tj_cmp (o_eq hr.u64) (ej_v 5 (hv := Or.inl rfl)) ej_str (nomark _)) (bj_one (sj_ret (ej_tup (aj_cons (ej_v 5 (hv := Or.inl rfl)) (aj_cons (ej_own h__law_take (hr.mono (by omega)) rfl (aj_cons (ej_v 0 (hv := Or.inl rfl)) (aj_cons ej_int aj_nil))) (aj_cons (ej_v 6 (hv := Or.inl rfl)) aj_nil)))))) bj_nil) (bj_cons (sj_set (i := 7) sc__law_expression.nd rfl (Or.inl rfl) (ej_own h__law_expression hr rfl (aj_cons (ej_v 0 (hv := Or.inl rfl)) (aj_cons (ej_v 1 (hv := Or.inl rfl)) (aj_cons (ej_op o_sub (ej_v 2 (hv := Or.inl rfl)) ej_int) (aj_cons (ej_v 3 (hv := Or.inl rfl)) aj_nil)))))) (bj_cons (sj_if (tj_cmp (o_eq hr.u64) (ej_v 5 (hv := Or.inl rfl)) ej_str (nomark _)) (bj_one (sj_ret (ej_tup (aj_cons (ej_v 5 (hv := Or.inl rfl)) (aj_cons (ej_own h__law_take (hr.mono (by omega)) rfl (aj_cons (ej_v 0 (hv := Or.inl rfl)) (aj_cons ej_int aj_nil))) (aj_cons (ej_own h__law_figure (hr.mono (by omega)) rfl (aj_cons (ej_v 0 (hv := Or.inl rfl)) aj_nil)) (aj_cons (ej_v 6 (hv := Or.inl rfl)) (aj_cons (ej_v 7 (hv := Or.inl rfl)) aj_nil)))))))) bj_nil) (bj_cons (sj_if (tj_cmp (o_eq hr.u64) (ej_v 5 (hv := Or.inl rfl)) ej_str (nomark _)) (bj_cons (sj_set (i := 8) sc__law_expression.nd rfl (Or.inl rfl) (ej_own h__law_of (hr.mono (by omega)) rfl (aj_cons (ej_v 0 (hv := Or.inl rfl)) (aj_cons (ej_fz (lj_disp (aj_cons ej_int (aj_cons ej_int (aj_cons ej_int (aj_cons ej_int (aj_cons ej_int (aj_cons (ej_op o_add ej_int (ej_own h__law_take (hr.mono (by omega)) rfl (aj_cons (ej_v 0 (hv := Or.inl rfl)) (aj_cons ej_int aj_nil)))) aj_nil)))))))) aj_nil)))) (bj_one (sj_ret (ej_tup (aj_cons (ej_v 5 (hv := Or.inl rfl)) (aj_cons (ej_own h__law_take (hr.mono (by omega)) rfl (aj_cons (ej_v 0 (hv := Or.inl rfl)) (aj_cons (ej_v 1 (hv := Or.inl rfl)) aj_nil))) (aj_cons (ej_v 8 (hv := Or.inl rfl)) (aj_cons (ej_v 6 (hv := Or.inl rfl)) (aj_cons (ej_v 7 (hv := Or.inl rfl)) aj_nil))))))))) bj_nil) (bj_one (sj_ret (ej_tup (aj_cons (ej_v 5 (hv := Or.inl rfl)) (aj_cons (ej_v 6 (hv := Or.inl rfl)) (aj_cons (ej_v 7 (hv := Or.inl rfl)) aj_nil))))))))))))))))) real
abbrev s__law_stake : Stmt := topS 23
abbrev N__law_stake : List Str := ["_law_hand_here", "_law_many", "_law_level", "_law_jumps", "_law_far", "_law_inner"]
theorem sc__law_stake : FnScope N__law_stake ["_law_hand_here", "_law_many", "_law_level", "_law_jumps"] (defScope s__law_stake) := ⟨rfl, rfl, rfl, by decide +kernel, rfl, by decide +kernel, by decide +kernel⟩
theorem ok__law_stake {f : Addr} {fd : FuncData} {con k__law_of k__law_take k__law_expression : Con} (F : FunD K "_law_stake" "_law_stake" (defArgs s__law_stake) (defBody s__law_stake) (defScope s__law_stake) [] [] f fd) (h__law_of : Cal P w K mg base 2 "_law_of" ["_law_hand_here", "_law_some"] k__law_of) (h__law_take : Cal P w K mg base 1 "_law_take" ["_law_hand_here", "_law_many"] k__law_take) (h__law_expression : Cal P w K mg base 9 "_law_expression" ["_law_hand_here", "_law_many", "_law_level", "_law_jumps"] k__law_expression) (len : ∀ ds S r, con ds S = some r → ds.length = 4)
    (real : ∀ ds S v S', WfS S → belowL S.length ds = true → con ds S = some (v, S') → ∃ o, b__law_stake k__law_of k__law_take k__law_expression (sE 6 ds) S = some o ∧ Fin o v S' ∧ WfS S' ∧ S.length ≤ S'.length) : FnG P w K mg base (9 + 1) f fd ["_law_hand_here", "_law_many", "_law_level", "_law_jumps"] con :=
  fn_ok (b := b__law_stake k__law_of k__law_take k__law_expression) F sc__law_stake len (fun cdv A outer s H E hr => (bj_cons (sj_set (i := 4) sc__law_stake.nd rfl (Or.inl rfl) (ej_own h__law_of (hr.mono (by decide)) rfl (aj_cons (ej_v 0 (hv := Or.inl rfl)) (aj_cons (ej_fz (lj_disp (aj_cons ej_int (aj_cons ej_int (aj_cons ej_int (aj_cons ej_int (aj_cons (ej_op o_add ej_int (ej_own h__law_take (hr.mono (by decide)) rfl (aj_cons (ej_v 0 (hv := Or.inl rfl)) (aj_cons ej_int aj_nil)))) aj_nil))))))) aj_nil)))) (bj_cons (sj_if (tj_cmp (o_eq hr.u64) (ej_own h__law_take (hr.mono (by decide)) rfl (aj_cons (ej_v 0 (hv := Or.inl rfl)) (aj_cons ej_int aj_nil))) ej_int (nomark _)) (bj_one (sj_ret (ej_tup (aj_cons ej_str (aj_cons (ej_own h__law_of (hr.mono (by decide)) rfl (aj_cons (ej_v 0 (hv := Or.inl rfl)) (aj_cons (ej_fz (lj_disp (aj_cons ej_int (aj_cons ej_int (aj_cons (ej_v 4 (hv := Or.inl rfl)) (aj_cons (ej_un o_neg (ej_v 4 (hv := Or.inl rfl))) aj_nil)))))) aj_nil))) aj_nil))))) bj_nil) (bj_cons (sj_set (i := 5) sc__law_stake.nd rfl (Or.inl rfl) (ej_tup (aj_cons ej_str (aj_cons (ej_tup (aj_cons ej_str (aj_cons (ej_un o_neg (ej_v 4 (hv := Or.inl rfl))) aj_nil))) (aj_cons (ej_own h__law_expression (hr.mono (by decide)) rfl (aj_cons (ej_v 0 (hv := Or.inl rfl)) (aj_cons (ej_v 1 (hv := Or.inl rfl)) (aj_cons (ej_v 2 (hv := Or.inl rfl)) (aj_cons (ej_v 3 (hv := Or.inl rfl)) aj_nil))))) aj_nil))))) (bj_one (sj_ret (ej_tup (aj_cons ej_str (aj_cons (ej_tup (aj_cons ej_str (aj_cons (ej_v 4 (hv := Or.inl rfl)) aj_nil))) (aj_cons (ej_v 5 (hv := Or.inl rfl)) aj_nil)))))))))) real
abbrev s__law_deeds : Stmt := topS 24
abbrev N__law_deeds : List Str := ["_law_hand_here", "_law_many", "_law_deep", "_law_found", "_law_turn", "_law_parts", "_law_i", "_law_word"]
theorem sc__law_deeds : FnScope N__law_deeds ["_law_hand_here", "_law_many", "_law_deep"] (defScope s__law_deeds) := ⟨rfl, rfl, rfl, by decide +kernel, rfl, by decide +kernel, by decide +kernel⟩
theorem ok__law_deeds {f : Addr} {fd : FuncData} {k : Nat} {con k__law_take k__law_of k__law_figure k__law_deeds : Con} (F : FunD K "_law_deeds" "_law_deeds" (defArgs s__law_deeds) (defBody s__law_deeds) (defScope s__law_deeds) [] [] f fd) (h__law_take : Cal P w K mg base 1 "_law_take" ["_law_hand_here", "_law_many"] k__law_take) (h__law_of : Cal P w K mg base 2 "_law_of" ["_law_hand_here", "_law_some"] k__law_of) (h__law_figure : Cal P w K mg base 3 "_law_figure" ["_law_hand_here"] k__law_figure) (h__law_deeds : Cal P w K mg base k "_law_deeds" ["_law_hand_here", "_law_many", "_law_deep"] k__law_deeds) (m_range : mg "range" = none) (m_tuple : mg "tuple" = none) (hk : 3 ≤ k) (len : ∀ ds S r, con ds S = some r → ds.length = 3)
    (real : ∀ ds S v S', WfS S → belowL S.length ds = true → con ds S = some (v, S') → ∃ o, b__law_deeds k__law_take k__law_of k__law_figure k__law_deeds (sE 8 ds) S = some o ∧ Fin o v S' ∧ WfS S' ∧ S.length ≤ S'.length) : FnG P w K mg base (k + 1) f fd ["_law_hand_here", "_law_many", "_law_deep"] con :=
  fn_ok (b := b__law_deeds k__law_take k__law_of k__law_figure k__law_deeds) F sc__law_deeds len (fun cdv A outer s H E hr => (bj_cons (sj_set (i := 3) sc__law_deeds.nd rfl (Or.inl rfl) (ej_bx (lj_disp aj_nil))) (bj_cons (sj_for PassesOwn.never rfl (ij_rg1 rfl m_range (ej_own h__law_take (hr.mono (by omega)) rfl (aj_cons (ej_v 0 (hv := Or.inr (Or.inl rfl))) (aj_cons ej_int aj_nil)))) (gj_name (i := 4) sc__law_deeds.nd rfl (Or.inl rfl)) (bj_cons (sj_par (i := 6) (j := 7) rfl sc__law_deeds.nd rfl rfl (by decide) rfl rfl (aj_cons (ej_own h__law_take (hr.mono (by omega)) rfl (aj_cons (ej_v 0 (hv := Or.inr (Or.inl rfl))) (aj_cons ej_int aj_nil))) (aj_cons (ej_own h__law_of (hr.mono (by omega)) rfl (aj_cons (ej_v 0 (hv := Or.inr (Or.inl rfl))) (aj_cons (ej_fz (lj_disp (aj_cons ej_str (aj_cons ej_str (aj_cons ej_str (aj_cons ej_str (aj_cons ej_str (aj_cons ej_str aj_nil)))))))) aj_nil))) aj_nil)) rfl) (bj_one (sj_if (tj_cmp (o_in hr.u65) (ej_v 7 (hv := Or.inl rfl)) (ej_tup (aj_cons ej_str (aj_cons ej_str aj_nil))) rfl) (bj_one (sj_expr (ej_bm PySem.F.plainAttrs_list PySem.F.slot_list_append PySem.F.type_list_append m_append (ej_v 3 (hv := Or.inl rfl)) (aj_cons (ej_tup (aj_cons (ej_v 7 (hv := Or.inl rfl)) (aj_cons (ej_v 6 (hv := Or.inl rfl)) (aj_cons (ej_own h__law_figure (hr.mono (by omega)) rfl (aj_cons (ej_v 0 (hv := Or.inr (Or.inl rfl))) aj_nil)) aj_nil)))) aj_nil)))) (bj_one (sj_if (tj_cmp (o_in hr.u65) (ej_v 7 (hv := Or.inl rfl)) (ej_tup (aj_cons ej_str (aj_cons ej_str aj_nil))) rfl) (bj_one (sj_expr (ej_bm PySem.F.plainAttrs_list PySem.F.slot_list_append PySem.F.type_list_append m_append (ej_v 3 (hv := Or.inl rfl)) (aj_cons (ej_tup (aj_cons (ej_v 7 (hv := Or.inl rfl)) (aj_cons (ej_v 6 (hv := Or.inl rfl)) (aj_cons (ej_own h__law_take (hr.mono (by omega)) rfl (aj_cons (ej_v 0 (hv := Or.inr (Or.inl rfl))) (aj_cons ej_int aj_nil))) aj_nil)))) aj_nil)))) (bj_one (sj_expr (ej_bm PySem.F.plainAttrs_list PySem.F.slot_list_append PySem.F.type_list_append m_append (ej_v 3 (hv := Or.inl rfl)) (aj_cons (ej_tup (aj_cons (ej_v 7 (hv := Or.inl rfl)) (aj_cons (ej_v 6 (hv := Or.inl rfl)) (aj_cons (ej_own h__law_take (hr.mono (by omega)) rfl (aj_cons (ej_v 0 (hv := Or.inr (Or.inl rfl))) (aj_cons (ej_v 1 (hv := Or.inr (Or.inl rfl))) aj_nil))) aj_nil)))) aj_nil)))))))))) (bj_cons (sj_if (wj_pt (wj_and (tj_cmp o_gt (ej_v 2 (hv := Or.inr (Or.inl rfl))) ej_int (nomark _)) (wj_and1 (tj_cmp (o_eq hr.u64) (ej_own h__law_take (hr.mono (by omega)) rfl (aj_cons (ej_v 0 (hv := Or.inr (Or.inl rfl))) (aj_cons ej_int aj_nil))) ej_int (nomark _))))) (bj_cons (sj_setLc (i := 5) (own := [("_law_turn", 4)]) false rfl sc__law_deeds.nd rfl rfl (sw_true rfl rfl rfl (by decide +kernel)) (ij_rg1 rfl m_range ej_int) (blkOk_by (N := N__law_deeds) (sc := defScope s__law_deeds) (by decide +kernel)) (fun _ _ _ _ _ => (gj_name (i := 4) sc__law_deeds.nd rfl (Or.inl rfl))) (fun _ _ _ _ _ => tsj_nil) (fun _ _ _ _ _ => (ej_own h__law_deeds hr rfl (aj_cons (ej_v 0 (hv := Or.inr (Or.inl rfl))) (aj_cons (ej_v 1 (hv := Or.inr (Or.inl rfl))) (aj_cons (ej_op o_sub (ej_v 2 (hv := Or.inr (Or.inl rfl))) ej_int) aj_nil))))) (by decide)) (bj_one (sj_expr (ej_bm PySem.F.plainAttrs_list PySem.F.slot_list_append PySem.F.type_list_append m_append (ej_v 3 (hv := Or.inl rfl)) (aj_cons (ej_tup (aj_cons ej_str (aj_cons (ej_own h__law_take (hr.mono (by omega)) rfl (aj_cons (ej_v 0 (hv := Or.inr (Or.inl rfl))) (aj_cons ej_int aj_nil))) (aj_cons (ej_own h__law_figure (hr.mono (by omega)) rfl (aj_cons (ej_v 0 (hv := Or.inr (Or.inl rfl))) aj_nil)) (aj_cons (ej_ix o_ix (ej_v 5 (hv := Or.inl rfl)) ej_int (fun _ _ => rfl)) (aj_cons (ej_ix o_ix (ej_v 5 (hv := Or.inl rfl)) ej_int (fun _ _ => rfl)) aj_nil)))))) aj_nil))))) bj_nil) (bj_one (sj_ret (ej_callT b_tuple rfl m_tuple (by decide +kernel) (aj_cons (ej_v 3 (hv := Or.inl rfl)) aj_nil)))))))) real
abbrev s__law_doubter : Stmt := topS 25
abbrev N__law_doubter : List Str := ["_law_hand_here", "_law_many", "_law_level", "_law_jumps", "_law_stakes", "_law_behinds", "_law_name", "_law_scale", "_law_sign"]
theorem sc__law_doubter : FnScope N__law_doubter ["_law_hand_here", "_law_many", "_law_level", "_law_jumps"] (defScope s__law_doubter) := ⟨rfl, rfl, rfl, by decide +kernel, rfl, by decide +kernel, by decide +kernel⟩
theorem ok__law_doubter {f : Addr} {fd : FuncData} {con k__law_take k__law_of k__law_stake k__law_deeds k__law_registers : Con} (F : FunD K "_law_doubter" "_law_doubter" (defArgs s__law_doubter) (defBody s__law_doubter) (defScope s__law_doubter) [] [] f fd) (h__law_take : Cal P w K mg base 1 "_law_take" ["_law_hand_here", "_law_many"] k__law_take) (h__law_of : Cal P w K mg base 2 "_law_of" ["_law_hand_here", "_law_some"] k__law_of) (h__law_stake : Cal P w K mg base 10 "_law_stake" ["_law_hand_here", "_law_many", "_law_level", "_law_jumps"] k__law_stake) (h__law_deeds : Cal P w K mg base 6 "_law_deeds" ["_law_hand_here", "_law_many", "_law_deep"] k__law_deeds) (h__law_registers : Cal P w K mg base 4 "_law_registers" ["_law_hand_here"] k__law_registers) (m_tuple : mg "tuple" = none) (m_range : mg "range" = none) (len : ∀ ds S r, con ds S = some r → ds.length = 4)
    (real : ∀ ds S v S', WfS S → belowL S.length ds = true → con ds S = some (v, S') → ∃ o, b__law_doubter k__law_take k__law_of k__law_stake k__law_deeds k__law_registers (sE 9 ds) S = some o ∧ Fin o v S' ∧ WfS S' ∧ S.length ≤ S'.length) : FnG P w K mg base (10 + 1) f fd ["_law_hand_here", "_law_many", "_law_level", "_law_jumps"] con :=
  fn_ok (b := b__law_doubter k__law_take k__law_of k__law_stake k__law_deeds k__law_registers) F sc__law_doubter len (fun cdv A outer s H E hr => (bj_cons (sj_par (i := 6) (j := 7) rfl sc__law_doubter.nd rfl rfl (by decide) rfl rfl (aj_cons (ej_own h__law_of (hr.mono (by decide)) rfl (aj_cons (ej_v 0 (hv := Or.inr (Or.inl rfl))) (aj_cons (ej_fz (lj_disp (aj_cons ej_str (aj_cons ej_str (aj_cons ej_str (aj_cons ej_str aj_nil)))))) aj_nil))) (aj_cons (ej_own h__law_take (hr.mono (by decide)) rfl (aj_cons (ej_v 0 (hv := Or.inr (Or.inl rfl))) (aj_cons ej_int aj_nil))) aj_nil)) rfl) (bj_cons (sj_set (i := 4) sc__law_doubter.nd rfl (Or.inl rfl) (ej_callT b_tuple rfl m_tuple (by decide +kernel) (aj_cons (ej_fz (lj_lc (own := [("_law_sign", 8)]) rfl sc__law_doubter.nd (ij_rg1 rfl m_range (ej_v 1 (hv := Or.inr (Or.inl rfl)))) (blkOk_by (N := N__law_doubter) (sc := defScope s__law_doubter) (by decide +kernel)) (fun _ _ _ _ _ => (gj_name (i := 8) sc__law_doubter.nd rfl (Or.inl rfl))) (fun _ _ _ _ _ => tsj_nil) (fun _ _ _ _ _ => (ej_own h__law_stake (hr.mono (by decide)) rfl (aj_cons (ej_v 0 (hv := Or.inr (Or.inl rfl))) (aj_cons (ej_v 1 (hv := Or.inr (Or.inl rfl))) (aj_cons (ej_v 2 (hv := Or.inr (Or.inl rfl))) (aj_cons (ej_v 3 (hv := Or.inr (Or.inl rfl))) aj_nil)))))) (by decide))) aj_nil))) (bj_cons (sj_set (i := 5) sc__law_doubter.nd rfl (Or.inl rfl) (ej_callT b_tuple rfl m_tuple (by decide +kernel) (aj_cons (ej_fz (lj_lc (own := [("_law_sign", 8)]) rfl sc__law_doubter.nd (ij_rg1 rfl m_range (ej_v 1 (hv := Or.inr (Or.inl rfl)))) (blkOk_by (N := N__law_doubter) (sc := defScope s__law_doubter) (by decide +kernel)) (fun _ _ _ _ _ => (gj_name (i := 8) sc__law_doubter.nd rfl (Or.inl rfl))) (fun _ _ _ _ _ => tsj_nil) (fun _ _ _ _ _ => (ej_own h__law_deeds (hr.mono (by decide)) rfl (aj_cons (ej_v 0 (hv := Or.inr (Or.inl rfl))) (aj_cons (ej_v 1 (hv := Or.inr (Or.inl rfl))) (aj_cons ej_int aj_nil))))) (by decide))) aj_nil))) (bj_one (sj_ret (ej_tup (aj_cons (ej_v 6 (hv := Or.inl rfl)) (aj_cons (ej_v 7 (hv := Or.inl rfl)) (aj_cons (ej_own h__law_registers (hr.mono (by decide)) rfl (aj_cons (ej_v 0 (hv := Or.inr (Or.inl rfl))) aj_nil)) (aj_cons (ej_v 4 (hv := Or.inl rfl)) (aj_cons (ej_v 5 (hv := Or.inl rfl)) aj_nil)))))))))))) real
abbrev s__law_one : Stmt := topS 26
abbrev N__law_one : List Str := ["_law_hand_here", "_law_doubter_here", "_law_weight", "_law_purse", "_law_got", "_law_owed", "_law_day_count"]
theorem sc__law_one : FnScope N__law_one ["_law_hand_here", "_law_doubter_here"] (defScope s__law_one) := ⟨rfl, rfl, rfl, by decide +kernel, rfl, by decide +kernel, by decide +kernel⟩
theorem ok__law_one {f : Addr} {fd : FuncData} {con k__law_of k__law_take k__law_registers : Con} (F : FunD K "_law_one" "_law_one" (defArgs s__law_one) (defBody s__law_one) (defScope s__law_one) [] [] f fd) (h__law_of : Cal P w K mg base 2 "_law_of" ["_law_hand_here", "_law_some"] k__law_of) (h__law_take : Cal P w K mg base 1 "_law_take" ["_law_hand_here", "_law_many"] k__law_take) (h__law_registers : Cal P w K mg base 4 "_law_registers" ["_law_hand_here"] k__law_registers) (len : ∀ ds S r, con ds S = some r → ds.length = 2)
    (real : ∀ ds S v S', WfS S → belowL S.length ds = true → con ds S = some (v, S') → ∃ o, b__law_one k__law_of k__law_take k__law_registers (sE 7 ds) S = some o ∧ Fin o v S' ∧ WfS S' ∧ S.length ≤ S'.length) : FnG P w K mg base (4 + 1) f fd ["_law_hand_here", "_law_doubter_here"] con :=
  fn_ok (b := b__law_one k__law_of k__law_take k__law_registers) F sc__law_one len (fun cdv A outer s H E hr => (bj_cons (sj_set (i := 2) sc__law_one.nd rfl (Or.inl rfl) (ej_own h__law_of (hr.mono (by decide)) rfl (aj_cons (ej_v 0 (hv := Or.inl rfl)) (aj_cons (ej_fz (lj_disp (aj_cons ej_int (aj_cons ej_int (aj_cons ej_int (aj_cons ej_int (aj_cons (ej_op o_pow ej_int ej_int) (aj_cons (ej_op o_add ej_int (ej_own h__law_take (hr.mono (by decide)) rfl (aj_cons (ej_v 0 (hv := Or.inl rfl)) (aj_cons (ej_op o_pow ej_int ej_int) aj_nil)))) aj_nil)))))))) aj_nil)))) (bj_cons (sj_set (i := 3) sc__law_one.nd rfl (Or.inl rfl) (ej_own h__law_of (hr.mono (by decide)) rfl (aj_cons (ej_v 0 (hv := Or.inl rfl)) (aj_cons (ej_fz (lj_disp (aj_cons (ej_v 2 (hv := Or.inl rfl)) (aj_cons ej_int (aj_cons ej_int (aj_cons ej_int (aj_cons (ej_op o_mul ej_int (ej_v 2 (hv := Or.inl rfl))) (aj_cons (ej_own h__law_take (hr.mono (by decide)) rfl (aj_cons (ej_v 0 (hv := Or.inl rfl)) (aj_cons (ej_op o_pow ej_int ej_int) aj_nil))) aj_nil)))))))) aj_nil)))) (bj_cons (sj_par (i := 5) (j := 6) rfl sc__law_one.nd rfl rfl (by decide) rfl rfl (aj_cons (ej_own h__law_of (hr.mono (by decide)) rfl (aj_cons (ej_v 0 (hv := Or.inl rfl)) (aj_cons (ej_fz (lj_disp (aj_cons ej_int (aj_cons ej_int (aj_cons (ej_own h__law_take (hr.mono (by decide)) rfl (aj_cons (ej_v 0 (hv := Or.inl rfl)) (aj_cons ej_int aj_nil))) aj_nil))))) aj_nil))) (aj_cons (ej_own h__law_take (hr.mono (by decide)) rfl (aj_cons (ej_v 0 (hv := Or.inl rfl)) (aj_cons ej_int aj_nil))) aj_nil)) rfl) (bj_cons (sj_set (i := 4) sc__law_one.nd rfl (Or.inl rfl) (ej_own h__law_of (hr.mono (by decide)) rfl (aj_cons (ej_v 0 (hv := Or.inl rfl)) (aj_cons (ej_fz (lj_disp (aj_cons ej_int (aj_cons (ej_un o_neg ej_int) (aj_cons (ej_op o_pow ej_int ej_int) (aj_cons (ej_op o_sub (ej_own h__law_take (hr.mono (by decide)) rfl (aj_cons (ej_v 0 (hv := Or.inl rfl)) (aj_cons (ej_op o_pow ej_int ej_int) aj_nil))) (ej_op o_mul ej_int (ej_op o_pow ej_int ej_int))) aj_nil)))))) aj_nil)))) (bj_one (sj_ret (ej_tup (aj_cons ej_str (aj_cons (ej_v 1 (hv := Or.inl rfl)) (aj_cons (ej_own h__law_registers (hr.mono (by decide)) rfl (aj_cons (ej_v 0 (hv := Or.inl rfl)) aj_nil)) (aj_cons (ej_v 2 (hv := Or.inl rfl)) (aj_cons (ej_v 3 (hv := Or.inl rfl)) (aj_cons (ej_v 5 (hv := Or.inl rfl)) (aj_cons (ej_v 6 (hv := Or.inl rfl)) (aj_cons (ej_v 4 (hv := Or.inl rfl)) aj_nil)))))))))))))))) real
abbrev s__law_span : Stmt := topS 28
abbrev N__law_span : List Str := ["_law_expression_here", "_law_word", "_law_parts", "_law_times", "_law_ends", "_law_number", "_law_part", "_law_low", "_law_high", "_law_least", "_law_greatest", "_law_end"]
theorem sc__law_span : FnScope N__law_span ["_law_expression_here"] (defScope s__law_span) := ⟨rfl, rfl, rfl, by decide +kernel, rfl, by decide +kernel, by decide +kernel⟩
theorem ok__law_span {f : Addr} {fd : FuncData} {k : Nat} {con k__law_span : Con} (F : FunD K "_law_span" "_law_span" (defArgs s__law_span) (defBody s__law_span) (defScope s__law_span) [] [] f fd) (h__law_span : Cal P w K mg base k "_law_span" ["_law_expression_here"] k__law_span) (m_isinstance : mg "isinstance" = none) (m_tuple : mg "tuple" = none) (m_max : mg "max" = none) (m_min : mg "min" = none) (len : ∀ ds S r, con ds S = some r → ds.length = 1)
    (real : ∀ ds S v S', WfS S → belowL S.length ds = true → con ds S = some (v, S') → ∃ o, b__law_span k__law_span (sE 12 ds) S = some o ∧ Fin o v S' ∧ WfS S' ∧ S.length ≤ S'.length) : FnG P w K mg base (k + 1) f fd ["_law_expression_here"] con :=
  fn_ok (b := b__law_span k__law_span) F sc__law_span len (fun cdv A outer s H E hr => (bj_cons (sj_set (i := 1) sc__law_span.nd rfl (Or.inl rfl) (ej_ix o_ix (ej_v 0 (hv := Or.inl rfl)) ej_int (fun _ _ => rfl))) (bj_cons (sj_if (tj_cmp (o_eq hr.u64) (ej_v 1 (hv := Or.inl rfl)) ej_str (nomark _)) (bj_one (sj_ret (ej_tup (aj_cons (ej_ix o_ix (ej_v 0 (hv := Or.inl rfl)) ej_int (fun _ _ => rfl)) (aj_cons (ej_ix o_ix (ej_v 0 (hv := Or.inl rfl)) ej_int (fun _ _ => rfl)) aj_nil))))) bj_nil) (bj_cons (sj_if (tj_cmp (o_in hr.u65) (ej_v 1 (hv := Or.inl rfl)) (ej_tup (aj_cons ej_str (aj_cons ej_str aj_nil))) rfl) (bj_one (sj_ret (ej_tup (aj_cons (ej_if (tj_cmp (o_eq hr.u64) (ej_v 1 (hv := Or.inl rfl)) ej_str (nomark _)) (ej_un o_neg ej_int) ej_int) (aj_cons ej_int aj_nil))))) bj_nil) (bj_cons (sj_setLc (i := 2) (own := [("_law_part", 6)]) false rfl sc__law_span.nd rfl rfl (sw_true rfl rfl rfl (by decide +kernel)) (ij_seq (ej_v 0 (hv := Or.inl rfl))) (blkOk_by (N := N__law_span) (sc := defScope s__law_span) (by decide +kernel)) (fun _ _ _ _ _ => (gj_name (i := 6) sc__law_span.nd rfl (Or.inl rfl))) (fun _ _ _ _ _ => (tsj_one (tj_val (ej_isi (T := "tuple") rfl m_isinstance rfl m_tuple (by decide +kernel) (ej_v 6 (hv := Or.inl rfl)))))) (fun _ _ _ _ _ => (ej_own h__law_span hr rfl (aj_cons (ej_v 6 (hv := Or.inl rfl)) aj_nil))) (by decide)) (bj_cons (sj_if (tj_cmp (o_in hr.u65) (ej_v 1 (hv := Or.inl rfl)) (ej_tup (aj_cons ej_str (aj_cons ej_str aj_nil))) rfl) (bj_cons (sj_set (i := 3) sc__law_span.nd rfl (Or.inl rfl) (ej_if (tj_cmp (o_eq hr.u64) (ej_v 1 (hv := Or.inl rfl)) ej_str (nomark _)) (ej_fz (lj_disp (aj_cons (ej_ix o_ix (ej_v 0 (hv := Or.inl rfl)) ej_int (fun _ _ => rfl)) aj_nil))) (ej_fz (lj_disp (aj_cons ej_int (aj_cons (ej_un o_neg ej_int) aj_nil)))))) (bj_cons (sj_set (i := 4) sc__law_span.nd rfl (Or.inl rfl) (ej_fz (lj_disp aj_nil))) (bj_cons (sj_for PassesOwn.never rfl (ij_seq (ej_v 3 (hv := Or.inl rfl))) (gj_name (i := 5) sc__law_span.nd rfl (Or.inr rfl)) (bj_one (sj_set (i := 4) sc__law_span.nd rfl (Or.inl rfl) (ej_fz (lj_op o_addL (ej_v 4 (hv := Or.inl rfl)) (ej_fz (lj_lc (own := [("_law_end", 11)]) rfl sc__law_span.nd (ij_seq (ej_ix o_ix (ej_v 2 (hv := Or.inl rfl)) ej_int (fun _ _ => rfl))) (blkOk_by (N := N__law_span) (sc := defScope s__law_span) (by decide +kernel)) (fun _ _ _ _ _ => (gj_name (i := 11) sc__law_span.nd rfl (Or.inl rfl))) (fun _ _ _ _ _ => tsj_nil) (fun _ _ _ _ _ => (ej_op o_mul (ej_v 5 (hv := Or.inr (Or.inl rfl))) (ej_v 11 (hv := Or.inl rfl)))) (by decide)))))))) (bj_one (sj_ret (ej_tup (aj_cons (ej_callB (b_min1 rfl) rfl m_min (by decide +kernel) (aj_cons (ej_v 4 (hv := Or.inl rfl)) aj_nil)) (aj_cons (ej_callB (b_max1 rfl) rfl m_max (by decide +kernel) (aj_cons (ej_v 4 (hv := Or.inl rfl)) aj_nil)) aj_nil)))))))) bj_nil) (bj_cons (sj_asg (ej_v 2 (hv := Or.inl rfl)) (gj_tupL rfl (gsj_cons (gj_tup rfl (gsj_cons (gj_name (i := 7) sc__law_span.nd rfl (Or.inl rfl)) (gsj_cons (gj_name (i := 8) sc__law_span.nd rfl (Or.inl rfl)) gsj_nil))) (gsj_cons (gj_tup rfl (gsj_cons (gj_name (i := 9) sc__law_span.nd rfl (Or.inl rfl)) (gsj_cons (gj_name (i := 10) sc__law_span.nd rfl (Or.inl rfl)) gsj_nil))) gsj_nil)))) (bj_cons (sj_if (tj_cmp (o_eq hr.u64) (ej_v 1 (hv := Or.inl rfl)) ej_str (nomark _)) (bj_one (sj_ret (ej_tup (aj_cons (ej_op o_add (ej_v 7 (hv := Or.inl rfl)) (ej_v 9 (hv := Or.inl rfl))) (aj_cons (ej_op o_add (ej_v 8 (hv := Or.inl rfl)) (ej_v 10 (hv := Or.inl rfl))) aj_nil))))) bj_nil) (bj_cons (sj_if (tj_cmp (o_eq hr.u64) (ej_v 1 (hv := Or.inl rfl)) ej_str (nomark _)) (bj_one (sj_ret (ej_tup (aj_cons (ej_op o_sub (ej_v 7 (hv := Or.inl rfl)) (ej_v 10 (hv := Or.inl rfl))) (aj_cons (ej_op o_sub (ej_v 8 (hv := Or.inl rfl)) (ej_v 9 (hv := Or.inl rfl))) aj_nil))))) bj_nil) (bj_cons (sj_if (tj_cmp (o_eq hr.u64) (ej_v 1 (hv := Or.inl rfl)) ej_str (nomark _)) (bj_one (sj_ret (ej_tup (aj_cons (ej_callB (b_min2 rfl) rfl m_min (by decide +kernel) (aj_cons (ej_v 7 (hv := Or.inl rfl)) (aj_cons (ej_v 9 (hv := Or.inl rfl)) aj_nil))) (aj_cons (ej_callB (b_min2 rfl) rfl m_min (by decide +kernel) (aj_cons (ej_v 8 (hv := Or.inl rfl)) (aj_cons (ej_v 10 (hv := Or.inl rfl)) aj_nil))) aj_nil))))) bj_nil) (bj_one (sj_ret (ej_tup (aj_cons (ej_if (tj_cmp (o_eq hr.u64) (ej_v 1 (hv := Or.inl rfl)) ej_str (nomark _)) (ej_callB (b_max2 rfl) rfl m_max (by decide +kernel) (aj_cons (ej_v 7 (hv := Or.inl rfl)) (aj_cons (ej_v 9 (hv := Or.inl rfl)) aj_nil))) (ej_callB (b_min2 rfl) rfl m_min (by decide +kernel) (aj_cons (ej_v 7 (hv := Or.inl rfl)) (aj_cons (ej_v 9 (hv := Or.inl rfl)) aj_nil)))) (aj_cons (ej_callB (b_max2 rfl) rfl m_max (by decide +kernel) (aj_cons (ej_v 8 (hv := Or.inl rfl)) (aj_cons (ej_v 10 (hv := Or.inl rfl)) aj_nil))) aj_nil))))))))))))))) real
abbrev s__law_bound : Stmt := topS 29
abbrev N__law_bound : List Str := ["_law_doubter_here", "_law_far", "_law_stake_here", "_law_full", "_law_low", "_law_high"]
theorem sc__law_bound : FnScope N__law_bound ["_law_doubter_here"] (defScope s__law_bound) := ⟨rfl, rfl, rfl, by decide +kernel, rfl, by decide +kernel, by decide +kernel⟩
theorem ok__law_bound {f : Addr} {fd : FuncData} {con k__law_span : Con} (F : FunD K "_law_bound" "_law_bound" (defArgs s__law_bound) (defBody s__law_bound) (defScope s__law_bound) [] [] f fd) (h__law_span : Cal P w K mg base 9 "_law_span" ["_law_expression_here"] k__law_span) (m_max : mg "max" = none) (m_abs : mg "abs" = none) (len : ∀ ds S r, con ds S = some r → ds.length = 1)
    (real : ∀ ds S v S', WfS S → belowL S.length ds = true → con ds S = some (v, S') → ∃ o, b__law_bound k__law_span (sE 6 ds) S = some o ∧ Fin o v S' ∧ WfS S' ∧ S.length ≤ S'.length) : FnG P w K mg base (9 + 1) f fd ["_law_doubter_here"] con :=
  fn_ok (b := b__law_bound k__law_span) F sc__law_bound len (fun cdv A outer s H E hr => (bj_cons (sj_set (i := 1) sc__law_bound.nd rfl (Or.inl rfl) ej_int) (bj_cons (sj_for PassesOwn.never rfl (ij_seq (ej_ix o_ix (ej_v 0 (hv := Or.inl rfl)) ej_int (fun _ _ => rfl))) (gj_name (i := 2) sc__law_bound.nd rfl (Or.inl rfl)) (bj_cons (sj_asg (ej_own h__law_span (hr.mono (by decide)) rfl (aj_cons (ej_v 2 (hv := Or.inl rfl)) aj_nil)) (gj_tup rfl (gsj_cons (gj_name (i := 4) sc__law_bound.nd rfl (Or.inl rfl)) (gsj_cons (gj_name (i := 5) sc__law_bound.nd rfl (Or.inl rfl)) gsj_nil)))) (bj_one (sj_set (i := 1) sc__law_bound.nd rfl (Or.inl rfl) (ej_callB (b_max3 rfl) rfl m_max (by decide +kernel) (aj_cons (ej_v 1 (hv := Or.inl rfl)) (aj_cons (ej_callB b_abs rfl m_abs (by decide +kernel) (aj_cons (ej_v 4 (hv := Or.inl rfl)) aj_nil)) (aj_cons (ej_callB b_abs rfl m_abs (by decide +kernel) (aj_cons (ej_v 5 (hv := Or.inl rfl)) aj_nil)) aj_nil)))))))) (bj_cons (sj_set (i := 3) sc__law_bound.nd rfl (Or.inl rfl) (ej_ix o_ix (ej_fz (lj_disp (aj_cons ej_int (aj_cons ej_int (aj_cons ej_int (aj_cons ej_int (aj_cons ej_int aj_nil))))))) (ej_ix o_ix (ej_v 0 (hv := Or.inl rfl)) ej_int (fun _ _ => rfl)) (fun _ _ => rfl))) (bj_one (sj_ret (ej_callB (b_max2 rfl) rfl m_max (by decide +kernel) (aj_cons ej_int (aj_cons (ej_op o_div (ej_op o_sub (ej_op o_add (ej_v 1 (hv := Or.inl rfl)) (ej_v 3 (hv := Or.inl rfl))) ej_int) (ej_v 3 (hv := Or.inl rfl))) aj_nil))))))))) real
abbrev s__law_power : Stmt := topS 27
abbrev N__law_power : List Str := ["_law_number", "_law_many", "_law_found", "_law_turn"]
theorem sc__law_power : FnScope N__law_power ["_law_number", "_law_many"] (defScope s__law_power) := ⟨rfl, rfl, rfl, by decide +kernel, rfl, by decide +kernel, by decide +kernel⟩
theorem ok__law_power {f : Addr} {fd : FuncData} {con : Con} (F : FunD K "_law_power" "_law_power" (defArgs s__law_power) (defBody s__law_power) (defScope s__law_power) [] [] f fd) (m_range : mg "range" = none) (len : ∀ ds S r, con ds S = some r → ds.length = 2)
    (real : ∀ ds S v S', WfS S → belowL S.length ds = true → con ds S = some (v, S') → ∃ o, b__law_power (sE 4 ds) S = some o ∧ Fin o v S' ∧ WfS S' ∧ S.length ≤ S'.length) : FnG P w K mg base (0 + 1) f fd ["_law_number", "_law_many"] con :=
  fn_ok (b := b__law_power) F sc__law_power len (fun cdv A outer s H E hr => (bj_cons (sj_set (i := 2) sc__law_power.nd rfl (Or.inl rfl) ej_int) (bj_cons (sj_for PassesOwn.never rfl (ij_rg1 rfl m_range (ej_v 1 (hv := Or.inl rfl))) (gj_name (i := 3) sc__law_power.nd rfl (Or.inl rfl)) (bj_one (sj_set (i := 2) sc__law_power.nd rfl (Or.inl rfl) (ej_op o_mul (ej_v 2 (hv := Or.inl rfl)) (ej_v 0 (hv := Or.inl rfl)))))) (bj_one (sj_ret (ej_v 2 (hv := Or.inl rfl))))))) real
abbrev s__law_most : Stmt := topS 30
abbrev N__law_most : List Str := ["_law_by", "_law_count", "_law_heavy", "_law_has", "_law_turn", "_law_u", "_law_most_here", "_law_due", "_law_plus", "_law_less"]
theorem sc__law_most : FnScope N__law_most ["_law_by", "_law_count", "_law_heavy", "_law_has"] (defScope s__law_most) := ⟨rfl, rfl, rfl, by decide +kernel, rfl, by decide +kernel, by decide +kernel⟩
theorem ok__law_most {f : Addr} {fd : FuncData} {con k__law_power : Con} (F : FunD K "_law_most" "_law_most" (defArgs s__law_most) (defBody s__law_most) (defScope s__law_most) [] [] f fd) (h__law_power : Cal P w K mg base 1 "_law_power" ["_law_number", "_law_many"] k__law_power) (m_range : mg "range" = none) (len : ∀ ds S r, con ds S = some r → ds.length = 4)
    (real : ∀ ds S v S', WfS S → belowL S.length ds = true → con ds S = some (v, S') → ∃ o, b__law_most k__law_power (sE 10 ds) S = some o ∧ Fin o v S' ∧ WfS S' ∧ S.length ≤ S'.length) : FnG P w K mg base (1 + 1) f fd ["_law_by", "_law_count", "_law_heavy", "_law_has"] con :=
  fn_ok (b := b__law_most k__law_power) F sc__law_most len (fun cdv A outer s H E hr => (bj_cons (sj_par (i := 6) (j := 7) rfl sc__law_most.nd rfl rfl (by decide) rfl rfl (aj_cons ej_non (aj_cons (ej_op o_mul (ej_op o_mul (ej_own h__law_power (hr.mono (by decide)) rfl (aj_cons ej_int (aj_cons (ej_op o_mul ej_int (ej_v 1 (hv := Or.inl rfl))) aj_nil))) (ej_v 3 (hv := Or.inl rfl))) (ej_v 3 (hv := Or.inl rfl))) aj_nil)) rfl) (bj_cons (sj_par (i := 8) (j := 9) rfl sc__law_most.nd rfl rfl (by decide) rfl rfl (aj_cons (ej_bx (lj_disp (aj_cons ej_int aj_nil))) (aj_cons (ej_bx (lj_disp (aj_cons ej_int aj_nil))) aj_nil)) rfl) (bj_cons (sj_for PassesOwn.never rfl (ij_rg1 rfl m_range (ej_op o_mul ej_int (ej_v 1 (hv := Or.inl rfl)))) (gj_name (i := 4) sc__law_most.nd rfl (Or.inl rfl)) (bj_cons (sj_expr (ej_bm PySem.F.plainAttrs_list PySem.F.slot_list_append PySem.F.type_list_append m_append (ej_v 8 (hv := Or.inl rfl)) (aj_cons (ej_op o_mul (ej_ix o_ix (ej_v 8 (hv := Or.inl rfl)) (ej_un o_neg ej_int) (fun _ _ => rfl)) (ej_op o_add ej_int (ej_v 0 (hv := Or.inl rfl)))) aj_nil))) (bj_one (sj_expr (ej_bm PySem.F.plainAttrs_list PySem.F.slot_list_append PySem.F.type_list_append m_append (ej_v 9 (hv := Or.inl rfl)) (aj_cons (ej_op o_mul (ej_ix o_ix (ej_v 9 (hv := Or.inl rfl)) (ej_un o_neg ej_int) (fun _ _ => rfl)) (ej_op o_sub ej_int (ej_v 0 (hv := Or.inl rfl)))) aj_nil)))))) (bj_cons (sj_for PassesOwn.never rfl (ij_rg2 rfl m_range (ej_un o_neg (ej_v 1 (hv := Or.inl rfl))) (ej_op o_add (ej_v 1 (hv := Or.inl rfl)) ej_int)) (gj_name (i := 5) sc__law_most.nd rfl (Or.inl rfl)) (bj_one (sj_if (tj_cmp o_le (ej_op o_mul (ej_op o_mul (ej_op o_mul (ej_ix o_ix (ej_v 8 (hv := Or.inl rfl)) (ej_op o_add (ej_v 1 (hv := Or.inl rfl)) (ej_v 5 (hv := Or.inl rfl))) (fun _ _ => rfl)) (ej_ix o_ix (ej_v 9 (hv := Or.inl rfl)) (ej_op o_sub (ej_v 1 (hv := Or.inl rfl)) (ej_v 5 (hv := Or.inl rfl))) (fun _ _ => rfl))) (ej_v 2 (hv := Or.inl rfl))) (ej_v 2 (hv := Or.inl rfl))) (ej_v 7 (hv := Or.inl rfl)) (nomark _)) (bj_one (sj_set (i := 6) sc__law_most.nd rfl (Or.inl rfl) (ej_v 5 (hv := Or.inl rfl)))) bj_nil))) (bj_one (sj_ret (ej_v 6 (hv := Or.inl rfl))))))))) real
abbrev s__law_right : Stmt := topS 31
abbrev N__law_right : List Str := ["_law_one_here", "_law_due", "_law_told", "_law_ahead", "_law_by"]
theorem sc__law_right : FnScope N__law_right ["_law_one_here"] (defScope s__law_right) := ⟨rfl, rfl, rfl, by decide +kernel, rfl, by decide +kernel, by decide +kernel⟩
theorem ok__law_right {f : Addr} {fd : FuncData} {con k__law_bound k_bound k__law_most k_sure k_off : Con} (F : FunD K "_law_right" "_law_right" (defArgs s__law_right) (defBody s__law_right) (defScope s__law_right) [] [] f fd) (h__law_bound : Cal P w K mg base 10 "_law_bound" ["_law_doubter_here"] k__law_bound) (h_bound : Cal P w K mg base 11 "bound" ["doubter"] k_bound) (h__law_most : Cal P w K mg base 2 "_law_most" ["_law_by", "_law_count", "_law_heavy", "_law_has"] k__law_most) (h_sure : Cal P w K mg base 12 "sure" ["one"] k_sure) (h_off : Cal P w K mg base 12 "off" ["one"] k_off) (m_repr : mg "repr" = none) (len : ∀ ds S r, con ds S = some r → ds.length = 1)
    (real : ∀ ds S v S', WfS S → belowL S.length ds = true → con ds S = some (v, S') → ∃ o, b__law_right k__law_bound k_bound k__law_most k_sure k_off (sE 5 ds) S = some o ∧ Fin o v S' ∧ WfS S' ∧ S.length ≤ S'.length) : FnG P w K mg base (12 + 1) f fd ["_law_one_here"] con :=
  fn_ok (b := b__law_right k__law_bound k_bound k__law_most k_sure k_off) F sc__law_right len (fun cdv A outer s H E hr => (bj_cons (sj_par (i := 3) (j := 4) rfl sc__law_right.nd rfl rfl (by decide) rfl rfl (aj_cons (ej_callB (b_reprB ⟨_, hr⟩) rfl m_repr (by decide +kernel) (aj_cons (ej_v 0 (hv := Or.inl rfl)) aj_nil)) (aj_cons (ej_own h__law_bound (hr.mono (by decide)) rfl (aj_cons (ej_ix o_ix (ej_v 0 (hv := Or.inl rfl)) ej_int (fun _ _ => rfl)) aj_nil)) aj_nil)) rfl) (bj_cons (sj_if (tj_cmp (o_ne hr.u64) (ej_callB (b_reprB ⟨_, hr⟩) rfl m_repr (by decide +kernel) (aj_cons (ej_own h_bound (hr.mono (by decide)) rfl (aj_cons (ej_ix o_ix (ej_v 0 (hv := Or.inl rfl)) ej_int (fun _ _ => rfl)) aj_nil)) aj_nil)) (ej_callB (b_reprB ⟨_, hr⟩) rfl m_repr (by decide +kernel) (aj_cons (ej_v 4 (hv := Or.inl rfl)) aj_nil)) (nomark _)) (bj_one (sj_ret ej_bl)) bj_nil) (bj_cons (sj_set (i := 1) sc__law_right.nd rfl (Or.inl rfl) (ej_fz (lj_disp (aj_cons (ej_op o_div (ej_op o_mul ej_int (ej_ix o_ix (ej_v 0 (hv := Or.inl rfl)) ej_int (fun _ _ => rfl))) (ej_op o_mul (ej_op o_pow ej_int ej_int) (ej_v 4 (hv := Or.inl rfl)))) (aj_cons (ej_own h__law_most (hr.mono (by decide)) rfl (aj_cons (ej_v 4 (hv := Or.inl rfl)) (aj_cons (ej_ix o_ix (ej_v 0 (hv := Or.inl rfl)) ej_int (fun _ _ => rfl)) (aj_cons (ej_ix o_ix (ej_v 0 (hv := Or.inl rfl)) ej_int (fun _ _ => rfl)) (aj_cons (ej_op o_add (ej_ix o_ix (ej_v 0 (hv := Or.inl rfl)) ej_int (fun _ _ => rfl)) (ej_ix o_ix (ej_v 0 (hv := Or.inl rfl)) ej_int (fun _ _ => rfl))) aj_nil))))) aj_nil))))) (bj_cons (sj_set (i := 2) sc__law_right.nd rfl (Or.inl rfl) (ej_fz (lj_disp (aj_cons (ej_own h_off (hr.mono (by decide)) rfl (aj_cons (ej_v 0 (hv := Or.inl rfl)) aj_nil)) (aj_cons (ej_own h_sure (hr.mono (by decide)) rfl (aj_cons (ej_v 0 (hv := Or.inl rfl)) aj_nil)) aj_nil))))) (bj_one (sj_ret (ej_and (ej_cmp (o_eq hr.u64) (ej_callB (b_reprB ⟨_, hr⟩) rfl m_repr (by decide +kernel) (aj_cons (ej_v 2 (hv := Or.inl rfl)) aj_nil)) (ej_callB (b_reprB ⟨_, hr⟩) rfl m_repr (by decide +kernel) (aj_cons (ej_v 1 (hv := Or.inl rfl)) aj_nil)) (nomark _)) (ej_one (ej_cmp (o_eq hr.u64) (ej_callB (b_reprB ⟨_, hr⟩) rfl m_repr (by decide +kernel) (aj_cons (ej_v 0 (hv := Or.inl rfl)) aj_nil)) (ej_v 3 (hv := Or.inl rfl)) (nomark _))))))))))) real
abbrev s__law_otherwise : Stmt := topS 32
abbrev N__law_otherwise : List Str := ["_law_hand_here", "_law_one_here", "_law_many", "_law_doubter_here", "_law_bare", "_law_some", "_law_word", "_law_registers_here", "_law_weight", "_law_purse", "_law_owed", "_law_day_count", "_law_got", "_law_name", "_law_scale", "_law_begins", "_law_stakes", "_law_behinds"]
theorem sc__law_otherwise : FnScope N__law_otherwise ["_law_hand_here", "_law_one_here", "_law_many"] (defScope s__law_otherwise) := ⟨rfl, rfl, rfl, by decide +kernel, rfl, by decide +kernel, by decide +kernel⟩
theorem ok__law_otherwise {f : Addr} {fd : FuncData} {con k__law_registers : Con} (F : FunD K "_law_otherwise" "_law_otherwise" (defArgs s__law_otherwise) (defBody s__law_otherwise) (defScope s__law_otherwise) [] [] f fd) (h__law_registers : Cal P w K mg base 4 "_law_registers" ["_law_hand_here"] k__law_registers) (len : ∀ ds S r, con ds S = some r → ds.length = 3)
    (real : ∀ ds S v S', WfS S → belowL S.length ds = true → con ds S = some (v, S') → ∃ o, b__law_otherwise k__law_registers (sE 18 ds) S = some o ∧ Fin o v S' ∧ WfS S' ∧ S.length ≤ S'.length) : FnG P w K mg base (4 + 1) f fd ["_law_hand_here", "_law_one_here", "_law_many"] con :=
  fn_ok (b := b__law_otherwise k__law_registers) F sc__law_otherwise len (fun cdv A outer s H E hr => (bj_cons (sj_asg (ej_slice s_tup (ej_v 1 (hv := Or.inl rfl)) oj_no (oj_some ej_int)) (gj_tup rfl (gsj_cons (gj_name (i := 6) sc__law_otherwise.nd rfl (Or.inl rfl)) (gsj_cons (gj_name (i := 3) sc__law_otherwise.nd rfl (Or.inl rfl)) (gsj_cons (gj_name (i := 7) sc__law_otherwise.nd rfl (Or.inl rfl)) gsj_nil))))) (bj_cons (sj_asg (ej_slice s_tup (ej_v 1 (hv := Or.inl rfl)) (oj_some ej_int) oj_no) (gj_tup rfl (gsj_cons (gj_name (i := 8) sc__law_otherwise.nd rfl (Or.inl rfl)) (gsj_cons (gj_name (i := 9) sc__law_otherwise.nd rfl (Or.inl rfl)) (gsj_cons (gj_name (i := 10) sc__law_otherwise.nd rfl (Or.inl rfl)) (gsj_cons (gj_name (i := 11) sc__law_otherwise.nd rfl (Or.inl rfl)) (gsj_cons (gj_name (i := 12) sc__law_otherwise.nd rfl (Or.inl rfl)) gsj_nil))))))) (bj_cons (sj_asg (ej_v 3 (hv := Or.inl rfl)) (gj_tup rfl (gsj_cons (gj_name (i := 13) sc__law_otherwise.nd rfl (Or.inl rfl)) (gsj_cons (gj_name (i := 14) sc__law_otherwise.nd rfl (Or.inl rfl)) (gsj_cons (gj_name (i := 15) sc__law_otherwise.nd rfl (Or.inl rfl)) (gsj_cons (gj_name (i := 16) sc__law_otherwise.nd rfl (Or.inl rfl)) (gsj_cons (gj_name (i := 17) sc__law_otherwise.nd rfl (Or.inl rfl)) gsj_nil))))))) (bj_cons (sj_set (i := 4) sc__law_otherwise.nd rfl (Or.inl rfl) (ej_tup (aj_cons ej_str (aj_cons (ej_v 14 (hv := Or.inl rfl)) (aj_cons (ej_own h__law_registers (hr.mono (by decide)) rfl (aj_cons (ej_v 0 (hv := Or.inl rfl)) aj_nil)) (aj_cons (ej_v 16 (hv := Or.inl rfl)) (aj_cons (ej_op o_mul (ej_tup (aj_cons (ej_tup aj_nil) aj_nil)) (ej_v 2 (hv := Or.inl rfl))) aj_nil))))))) (bj_cons (sj_set (i := 5) sc__law_otherwise.nd rfl (Or.inl rfl) (ej_bx (lj_disp (aj_cons (ej_tup (aj_cons (ej_v 6 (hv := Or.inl rfl)) (aj_cons (ej_v 4 (hv := Or.inl rfl)) (aj_cons (ej_own h__law_registers (hr.mono (by decide)) rfl (aj_cons (ej_v 0 (hv := Or.inl rfl)) aj_nil)) (aj_cons (ej_v 8 (hv := Or.inl rfl)) (aj_cons (ej_v 9 (hv := Or.inl rfl)) (aj_cons (ej_v 10 (hv := Or.inl rfl)) (aj_cons (ej_v 11 (hv := Or.inl rfl)) (aj_cons (ej_v 12 (hv := Or.inl rfl)) aj_nil))))))))) aj_nil)))) (bj_cons (sj_expr (ej_bm PySem.F.plainAttrs_list PySem.F.slot_list_append PySem.F.type_list_append m_append (ej_v 5 (hv := Or.inl rfl)) (aj_cons (ej_tup (aj_cons (ej_v 6 (hv := Or.inl rfl)) (aj_cons (ej_v 3 (hv := Or.inl rfl)) (aj_cons (ej_v 7 (hv := Or.inl rfl)) (aj_cons (ej_v 8 (hv := Or.inl rfl)) (aj_cons (ej_v 10 (hv := Or.inl rfl)) (aj_cons (ej_v 9 (hv := Or.inl rfl)) (aj_cons (ej_v 11 (hv := Or.inl rfl)) (aj_cons (ej_v 12 (hv := Or.inl rfl)) aj_nil))))))))) aj_nil))) (bj_cons (sj_expr (ej_bm PySem.F.plainAttrs_list PySem.F.slot_list_append PySem.F.type_list_append m_append (ej_v 5 (hv := Or.inl rfl)) (aj_cons (ej_tup (aj_cons (ej_v 6 (hv := Or.inl rfl)) (aj_cons (ej_v 3 (hv := Or.inl rfl)) (aj_cons (ej_v 7 (hv := Or.inl rfl)) (aj_cons (ej_v 8 (hv := Or.inl rfl)) (aj_cons (ej_v 9 (hv := Or.inl rfl)) (aj_cons (ej_v 10 (hv := Or.inl rfl)) (aj_cons (ej_op o_add (ej_v 11 (hv := Or.inl rfl)) ej_int) (aj_cons (ej_op o_sub ej_int (ej_v 12 (hv := Or.inl rfl))) aj_nil))))))))) aj_nil))) (bj_cons (sj_expr (ej_bm PySem.F.plainAttrs_list PySem.F.slot_list_append PySem.F.type_list_append m_append (ej_v 5 (hv := Or.inl rfl)) (aj_cons (ej_tup (aj_cons (ej_v 6 (hv := Or.inl rfl)) (aj_cons (ej_v 3 (hv := Or.inl rfl)) (aj_cons (ej_v 7 (hv := Or.inl rfl)) (aj_cons (ej_op o_pow ej_int ej_int) (aj_cons (ej_v 9 (hv := Or.inl rfl)) (aj_cons (ej_v 10 (hv := Or.inl rfl)) (aj_cons (ej_v 11 (hv := Or.inl rfl)) (aj_cons (ej_op o_sub (ej_v 12 (hv := Or.inl rfl)) ej_int) aj_nil))))))))) aj_nil))) (bj_one (sj_ret (ej_v 5 (hv := Or.inl rfl))))))))))))) real
abbrev s_law : Stmt := topS 33
abbrev N_law : List Str := ["_law_script", "_law_k", "_law_hand_here", "_law_turn", "_law_many", "_law_one_here", "_law_some", "_law_other"]
theorem sc_law : FnScope N_law ["_law_script"] (defScope s_law) := ⟨rfl, rfl, rfl, by decide +kernel, rfl, by decide +kernel, by decide +kernel⟩
theorem ok_law {f : Addr} {fd : FuncData} {con k__law_hand k__law_take k__law_one k__law_doubter k__law_otherwise k__law_right k_off k_sure : Con} (F : FunD K "law" "law" (defArgs s_law) (defBody s_law) (defScope s_law) [] [] f fd) (h__law_hand : Cal P w K mg base 1 "_law_hand" ["_law_script", "_law_k"] k__law_hand) (h__law_take : Cal P w K mg base 1 "_law_take" ["_law_hand_here", "_law_many"] k__law_take) (h__law_one : Cal P w K mg base 5 "_law_one" ["_law_hand_here", "_law_doubter_here"] k__law_one) (h__law_doubter : Cal P w K mg base 11 "_law_doubter" ["_law_hand_here", "_law_many", "_law_level", "_law_jumps"] k__law_doubter) (h__law_otherwise : Cal P w K mg base 5 "_law_otherwise" ["_law_hand_here", "_law_one_here", "_law_many"] k__law_otherwise) (h__law_right : Cal P w K mg base 13 "_law_right" ["_law_one_here"] k__law_right) (h_off : Cal P w K mg base 12 "off" ["one"] k_off) (h_sure : Cal P w K mg base 12 "sure" ["one"] k_sure) (m_range : mg "range" = none) (m_max : mg "max" = none) (m_min : mg "min" = none) (m_len : mg "len" = none) (m_all : mg "all" = none) (len : ∀ ds S r, con ds S = some r → ds.length = 1)
    (real : ∀ ds S v S', WfS S → belowL S.length ds = true → con ds S = some (v, S') → ∃ o, b_law k__law_hand k__law_take k__law_one k__law_doubter k__law_otherwise k__law_right k_off k_sure (sE 8 ds) S = some o ∧ Fin o v S' ∧ WfS S' ∧ S.length ≤ S'.length) : FnG P w K mg base (13 + 1) f fd ["_law_script"] con :=
  fn_ok (b := b_law k__law_hand k__law_take k__law_one k__law_doubter k__law_otherwise k__law_right k_off k_sure) F sc_law len (fun cdv A outer s H E hr => (bj_cons (sj_for PassesOwn.never rfl (ij_rg1 rfl m_range (ej_callB (b_max2 rfl) rfl m_max (by decide +kernel) (aj_cons ej_int (aj_cons (ej_callB (b_min2 rfl) rfl m_min (by decide +kernel) (aj_cons ej_int (aj_cons (ej_callB b_len rfl m_len (by decide +kernel) (aj_cons (ej_v 0 (hv := Or.inl rfl)) aj_nil)) aj_nil))) aj_nil)))) (gj_name (i := 1) sc_law.nd rfl (Or.inl rfl)) (bj_cons (sj_set (i := 2) sc_law.nd rfl (Or.inl rfl) (ej_own h__law_hand (hr.mono (by decide)) rfl (aj_cons (ej_v 0 (hv := Or.inl rfl)) (aj_cons (ej_v 1 (hv := Or.inl rfl)) aj_nil)))) (bj_one (sj_for PassesOwn.never rfl (ij_rg1 rfl m_range ej_int) (gj_name (i := 3) sc_law.nd rfl (Or.inl rfl)) (bj_cons (sj_set (i := 4) sc_law.nd rfl (Or.inl rfl) (ej_op o_add ej_int (ej_own h__law_take (hr.mono (by decide)) rfl (aj_cons (ej_v 2 (hv := Or.inl rfl)) (aj_cons ej_int aj_nil))))) (bj_cons (sj_set (i := 5) sc_law.nd rfl (Or.inl rfl) (ej_own h__law_one (hr.mono (by decide)) rfl (aj_cons (ej_v 2 (hv := Or.inl rfl)) (aj_cons (ej_own h__law_doubter (hr.mono (by decide)) rfl (aj_cons (ej_v 2 (hv := Or.inl rfl)) (aj_cons (ej_v 4 (hv := Or.inl rfl)) (aj_cons ej_int (aj_cons ej_int aj_nil))))) aj_nil)))) (bj_cons (sj_set (i := 6) sc_law.nd rfl (Or.inl rfl) (ej_own h__law_otherwise (hr.mono (by decide)) rfl (aj_cons (ej_v 2 (hv := Or.inl rfl)) (aj_cons (ej_v 5 (hv := Or.inl rfl)) (aj_cons (ej_v 4 (hv := Or.inl rfl)) aj_nil))))) (bj_cons (sj_if (tj_not (tj_val (ej_callB (b_all rfl) rfl m_all (by decide +kernel) (aj_cons (ej_fz (lj_lc (own := [("_law_other", 7)]) rfl sc_law.nd (ij_seq (ej_fz (lj_op o_addL (ej_fz (lj_disp (aj_cons (ej_v 5 (hv := Or.inl rfl)) aj_nil))) (ej_v 6 (hv := Or.inl rfl))))) (blkOk_by (N := N_law) (sc := defScope s_law) (by decide +kernel)) (fun _ _ _ _ _ => (gj_name (i := 7) sc_law.nd rfl (Or.inl rfl))) (fun _ _ _ _ _ => tsj_nil) (fun _ _ _ _ _ => (ej_own h__law_right (hr.mono (by decide)) rfl (aj_cons (ej_v 7 (hv := Or.inl rfl)) aj_nil))) (by decide))) aj_nil)))) (bj_one (sj_ret ej_bl)) bj_nil) (bj_one (sj_if (wj_pt (wj_or (tj_cmp (o_ne hr.u64) (ej_own h_off (hr.mono (by decide)) rfl (aj_cons (ej_ix o_ix (ej_v 6 (hv := Or.inl rfl)) ej_int (fun _ _ => rfl)) aj_nil)) (ej_own h_off (hr.mono (by decide)) rfl (aj_cons (ej_v 5 (hv := Or.inl rfl)) aj_nil)) (nomark _)) (wj_or1 (tj_cmp (o_ne hr.u64) (ej_own h_sure (hr.mono (by decide)) rfl (aj_cons (ej_ix o_ix (ej_v 6 (hv := Or.inl rfl)) ej_int (fun _ _ => rfl)) aj_nil)) (ej_own h_sure (hr.mono (by decide)) rfl (aj_cons (ej_v 5 (hv := Or.inl rfl)) aj_nil)) (nomark _))))) (bj_one (sj_ret ej_bl)) bj_nil)))))))))) (bj_one (sj_ret ej_bl)))) real
end
end Q44
set_option Elab.async false
set_option linter.all false
set_option maxRecDepth 100000
set_option maxHeartbeats 0
namespace Q44
open PySem PySem.Spec PyProof.Rows L2 Pv
def fnL : List He.DefD := [⟨("span_of_pair", none), "span_of_pair", "span_of_pair", defArgs s_span_of_pair, defBody s_span_of_pair, defScope s_span_of_pair, [], []⟩,
  ⟨("span", none), "span", "span", defArgs s_span, defBody s_span, defScope s_span, [], []⟩,
  ⟨("bound", none), "bound", "bound", defArgs s_bound, defBody s_bound, defScope s_bound, [], []⟩,
  ⟨("off", none), "off", "off", defArgs s_off, defBody s_off, defScope s_off, [], []⟩,
  ⟨("power", none), "power", "power", defArgs s_power, defBody s_power, defScope s_power, [], []⟩,
  ⟨("is_borne", none), "is_borne", "is_borne", defArgs s_is_borne, defBody s_is_borne, defScope s_is_borne, [], []⟩,
  ⟨("most_off", none), "most_off", "most_off", defArgs s_most_off, defBody s_most_off, defScope s_most_off, [], []⟩,
  ⟨("sure", none), "sure", "sure", defArgs s_sure, defBody s_sure, defScope s_sure, [], []⟩,
  ⟨("_law_hand", none), "_law_hand", "_law_hand", defArgs s__law_hand, defBody s__law_hand, defScope s__law_hand, [], []⟩,
  ⟨("_law_take", none), "_law_take", "_law_take", defArgs s__law_take, defBody s__law_take, defScope s__law_take, [], []⟩,
  ⟨("_law_of", none), "_law_of", "_law_of", defArgs s__law_of, defBody s__law_of, defScope s__law_of, [], []⟩,
  ⟨("_law_figure", none), "_law_figure", "_law_figure", defArgs s__law_figure, defBody s__law_figure, defScope s__law_figure, [], []⟩,
  ⟨("_law_registers", none), "_law_registers", "_law_registers", defArgs s__law_registers, defBody s__law_registers, defScope s__law_registers, [], []⟩,
  ⟨("_law_leaf", none), "_law_leaf", "_law_leaf", defArgs s__law_leaf, defBody s__law_leaf, defScope s__law_leaf, [], []⟩,
  ⟨("_law_expression", none), "_law_expression", "_law_expression", defArgs s__law_expression, defBody s__law_expression, defScope s__law_expression, [], []⟩,
  ⟨("_law_stake", none), "_law_stake", "_law_stake", defArgs s__law_stake, defBody s__law_stake, defScope s__law_stake, [], []⟩,
  ⟨("_law_deeds", none), "_law_deeds", "_law_deeds", defArgs s__law_deeds, defBody s__law_deeds, defScope s__law_deeds, [], []⟩,
  ⟨("_law_doubter", none), "_law_doubter", "_law_doubter", defArgs s__law_doubter, defBody s__law_doubter, defScope s__law_doubter, [], []⟩,
  ⟨("_law_one", none), "_law_one", "_law_one", defArgs s__law_one, defBody s__law_one, defScope s__law_one, [], []⟩,
  ⟨("_law_span", none), "_law_span", "_law_span", defArgs s__law_span, defBody s__law_span, defScope s__law_span, [], []⟩,
  ⟨("_law_bound", none), "_law_bound", "_law_bound", defArgs s__law_bound, defBody s__law_bound, defScope s__law_bound, [], []⟩,
  ⟨("_law_power", none), "_law_power", "_law_power", defArgs s__law_power, defBody s__law_power, defScope s__law_power, [], []⟩,
  ⟨("_law_most", none), "_law_most", "_law_most", defArgs s__law_most, defBody s__law_most, defScope s__law_most, [], []⟩,
  ⟨("_law_right", none), "_law_right", "_law_right", defArgs s__law_right, defBody s__law_right, defScope s__law_right, [], []⟩,
  ⟨("_law_otherwise", none), "_law_otherwise", "_law_otherwise", defArgs s__law_otherwise, defBody s__law_otherwise, defScope s__law_otherwise, [], []⟩,
  ⟨("law", none), "law", "law", defArgs s_law, defBody s_law, defScope s_law, [], []⟩]
def faL : List He.Fa := [.glo "span_of_pair", .glo "span", .glo "bound", .glo "off", .glo "power", .glo "is_borne", .glo "most_off", .glo "sure", .glo "_law_hand", .glo "_law_take", .glo "_law_of", .glo "_law_figure", .glo "_law_registers", .glo "_law_leaf", .glo "_law_expression", .glo "_law_stake", .glo "_law_deeds", .glo "_law_doubter", .glo "_law_one", .glo "_law_span", .glo "_law_bound", .glo "_law_power", .glo "_law_most", .glo "_law_right", .glo "_law_otherwise", .glo "law", .free "abs", .free "all", .free "int", .free "isinstance", .free "len", .free "max", .free "min", .free "range", .free "repr", .free "tuple"]
def csL : List (Str × D) := [("MOST_FIGURE", d_MOST_FIGURE), ("MOST_STAKE", d_MOST_STAKE), ("SCALES", d_SCALES), ("PARTS", d_PARTS)]
def loose0 : List Str := ["MOST_FIGURE", "span_of_pair", "span", "MOST_STAKE", "SCALES", "bound", "PARTS", "off", "power", "is_borne", "most_off", "sure", "_law_hand", "_law_take", "_law_of", "_law_figure", "_law_registers", "_law_leaf", "_law_expression", "_law_stake", "_law_deeds", "_law_doubter", "_law_one", "_law_power", "_law_span", "_law_bound", "_law_most", "_law_right", "_law_otherwise"]
def looseL : List Str := loose0
abbrev Rw : PySem.W.OpenRow := PySem.W.OpenLaw.row PySem.Challenge.rw_nonegrowsrich_k44_off_and_sure_of_ones
abbrev hkP : PySem.W.Hook := hookP 4 faL fnL csL
def obP (s : PySem.W.SharedT) : AlP := obsP 4 faL fnL csL (HandSHeadRun.getT s)
theorem obP_eq (s : PySem.W.SharedT) : obP s = hkP.obs s.abs := obsP_eq (HandSHeadRun.getT_eq s)
theorem runP (w : World) : HandSHeadRun.RunEq Rw (PySem.W.view Rw.prog [33]) hkP obP 3000 looseL w := by
  intro os
  kernel_rfl
theorem factsP {P : Program} {w : World} {K : PySem.W.Frag} {h : Heap} {mg : Str → Option Value} {f : Addr} (X : K.In h) (G : h.Ns mainGlobals mg) (hfa : mg ("law" : Str) = some (.ref f)) (c : SaysP faL fnL csL K) :
    ∃ fd : FuncData, (∀ (s : Shared) (v : Value), BindsTo s fd ⟨[v], []⟩ [("_law_script", v)]) ∧ ∀ base : Heap, K.In base → base.Ns mainGlobals mg → FnG P w K mg base 14 f fd ["_law_script"] c_law := by
  obtain ⟨fd_span_of_pair, F_span_of_pair⟩ := c.d.def_ 0 (d := ⟨("span_of_pair", none), "span_of_pair", "span_of_pair", defArgs s_span_of_pair, defBody s_span_of_pair, defScope s_span_of_pair, [], []⟩) rfl
  have n_span_of_pair := He.glo_ok X G (c.d.fact 0 (f := .glo "span_of_pair") rfl)
  obtain ⟨fd_span, F_span⟩ := c.d.def_ 1 (d := ⟨("span", none), "span", "span", defArgs s_span, defBody s_span, defScope s_span, [], []⟩) rfl
  have n_span := He.glo_ok X G (c.d.fact 1 (f := .glo "span") rfl)
  obtain ⟨fd_bound, F_bound⟩ := c.d.def_ 2 (d := ⟨("bound", none), "bound", "bound", defArgs s_bound, defBody s_bound, defScope s_bound, [], []⟩) rfl
  have n_bound := He.glo_ok X G (c.d.fact 2 (f := .glo "bound") rfl)
  obtain ⟨fd_off, F_off⟩ := c.d.def_ 3 (d := ⟨("off", none), "off", "off", defArgs s_off, defBody s_off, defScope s_off, [], []⟩) rfl
  have n_off := He.glo_ok X G (c.d.fact 3 (f := .glo "off") rfl)
  obtain ⟨fd_power, F_power⟩ := c.d.def_ 4 (d := ⟨("power", none), "power", "power", defArgs s_power, defBody s_power, defScope s_power, [], []⟩) rfl
  have n_power := He.glo_ok X G (c.d.fact 4 (f := .glo "power") rfl)
  obtain ⟨fd_is_borne, F_is_borne⟩ := c.d.def_ 5 (d := ⟨("is_borne", none), "is_borne", "is_borne", defArgs s_is_borne, defBody s_is_borne, defScope s_is_borne, [], []⟩) rfl
  have n_is_borne := He.glo_ok X G (c.d.fact 5 (f := .glo "is_borne") rfl)
  obtain ⟨fd_most_off, F_most_off⟩ := c.d.def_ 6 (d := ⟨("most_off", none), "most_off", "most_off", defArgs s_most_off, defBody s_most_off, defScope s_most_off, [], []⟩) rfl
  have n_most_off := He.glo_ok X G (c.d.fact 6 (f := .glo "most_off") rfl)
  obtain ⟨fd_sure, F_sure⟩ := c.d.def_ 7 (d := ⟨("sure", none), "sure", "sure", defArgs s_sure, defBody s_sure, defScope s_sure, [], []⟩) rfl
  have n_sure := He.glo_ok X G (c.d.fact 7 (f := .glo "sure") rfl)
  obtain ⟨fd__law_hand, F__law_hand⟩ := c.d.def_ 8 (d := ⟨("_law_hand", none), "_law_hand", "_law_hand", defArgs s__law_hand, defBody s__law_hand, defScope s__law_hand, [], []⟩) rfl
  have n__law_hand := He.glo_ok X G (c.d.fact 8 (f := .glo "_law_hand") rfl)
  obtain ⟨fd__law_take, F__law_take⟩ := c.d.def_ 9 (d := ⟨("_law_take", none), "_law_take", "_law_take", defArgs s__law_take, defBody s__law_take, defScope s__law_take, [], []⟩) rfl
  have n__law_take := He.glo_ok X G (c.d.fact 9 (f := .glo "_law_take") rfl)
  obtain ⟨fd__law_of, F__law_of⟩ := c.d.def_ 10 (d := ⟨("_law_of", none), "_law_of", "_law_of", defArgs s__law_of, defBody s__law_of, defScope s__law_of, [], []⟩) rfl
  have n__law_of := He.glo_ok X G (c.d.fact 10 (f := .glo "_law_of") rfl)
  obtain ⟨fd__law_figure, F__law_figure⟩ := c.d.def_ 11 (d := ⟨("_law_figure", none), "_law_figure", "_law_figure", defArgs s__law_figure, defBody s__law_figure, defScope s__law_figure, [], []⟩) rfl
  have n__law_figure := He.glo_ok X G (c.d.fact 11 (f := .glo "_law_figure") rfl)
  obtain ⟨fd__law_registers, F__law_registers⟩ := c.d.def_ 12 (d := ⟨("_law_registers", none), "_law_registers", "_law_registers", defArgs s__law_registers, defBody s__law_registers, defScope s__law_registers, [], []⟩) rfl
  have n__law_registers := He.glo_ok X G (c.d.fact 12 (f := .glo "_law_registers") rfl)
  obtain ⟨fd__law_leaf, F__law_leaf⟩ := c.d.def_ 13 (d := ⟨("_law_leaf", none), "_law_leaf", "_law_leaf", defArgs s__law_leaf, defBody s__law_leaf, defScope s__law_leaf, [], []⟩) rfl
  have n__law_leaf := He.glo_ok X G (c.d.fact 13 (f := .glo "_law_leaf") rfl)
  obtain ⟨fd__law_expression, F__law_expression⟩ := c.d.def_ 14 (d := ⟨("_law_expression", none), "_law_expression", "_law_expression", defArgs s__law_expression, defBody s__law_expression, defScope s__law_expression, [], []⟩) rfl
  have n__law_expression := He.glo_ok X G (c.d.fact 14 (f := .glo "_law_expression") rfl)
  obtain ⟨fd__law_stake, F__law_stake⟩ := c.d.def_ 15 (d := ⟨("_law_stake", none), "_law_stake", "_law_stake", defArgs s__law_stake, defBody s__law_stake, defScope s__law_stake, [], []⟩) rfl
  have n__law_stake := He.glo_ok X G (c.d.fact 15 (f := .glo "_law_stake") rfl)
  obtain ⟨fd__law_deeds, F__law_deeds⟩ := c.d.def_ 16 (d := ⟨("_law_deeds", none), "_law_deeds", "_law_deeds", defArgs s__law_deeds, defBody s__law_deeds, defScope s__law_deeds, [], []⟩) rfl
  have n__law_deeds := He.glo_ok X G (c.d.fact 16 (f := .glo "_law_deeds") rfl)
  obtain ⟨fd__law_doubter, F__law_doubter⟩ := c.d.def_ 17 (d := ⟨("_law_doubter", none), "_law_doubter", "_law_doubter", defArgs s__law_doubter, defBody s__law_doubter, defScope s__law_doubter, [], []⟩) rfl
  have n__law_doubter := He.glo_ok X G (c.d.fact 17 (f := .glo "_law_doubter") rfl)
  obtain ⟨fd__law_one, F__law_one⟩ := c.d.def_ 18 (d := ⟨("_law_one", none), "_law_one", "_law_one", defArgs s__law_one, defBody s__law_one, defScope s__law_one, [], []⟩) rfl
  have n__law_one := He.glo_ok X G (c.d.fact 18 (f := .glo "_law_one") rfl)
  obtain ⟨fd__law_span, F__law_span⟩ := c.d.def_ 19 (d := ⟨("_law_span", none), "_law_span", "_law_span", defArgs s__law_span, defBody s__law_span, defScope s__law_span, [], []⟩) rfl
  have n__law_span := He.glo_ok X G (c.d.fact 19 (f := .glo "_law_span") rfl)
  obtain ⟨fd__law_bound, F__law_bound⟩ := c.d.def_ 20 (d := ⟨("_law_bound", none), "_law_bound", "_law_bound", defArgs s__law_bound, defBody s__law_bound, defScope s__law_bound, [], []⟩) rfl
  have n__law_bound := He.glo_ok X G (c.d.fact 20 (f := .glo "_law_bound") rfl)
  obtain ⟨fd__law_power, F__law_power⟩ := c.d.def_ 21 (d := ⟨("_law_power", none), "_law_power", "_law_power", defArgs s__law_power, defBody s__law_power, defScope s__law_power, [], []⟩) rfl
  have n__law_power := He.glo_ok X G (c.d.fact 21 (f := .glo "_law_power") rfl)
  obtain ⟨fd__law_most, F__law_most⟩ := c.d.def_ 22 (d := ⟨("_law_most", none), "_law_most", "_law_most", defArgs s__law_most, defBody s__law_most, defScope s__law_most, [], []⟩) rfl
  have n__law_most := He.glo_ok X G (c.d.fact 22 (f := .glo "_law_most") rfl)
  obtain ⟨fd__law_right, F__law_right⟩ := c.d.def_ 23 (d := ⟨("_law_right", none), "_law_right", "_law_right", defArgs s__law_right, defBody s__law_right, defScope s__law_right, [], []⟩) rfl
  have n__law_right := He.glo_ok X G (c.d.fact 23 (f := .glo "_law_right") rfl)
  obtain ⟨fd__law_otherwise, F__law_otherwise⟩ := c.d.def_ 24 (d := ⟨("_law_otherwise", none), "_law_otherwise", "_law_otherwise", defArgs s__law_otherwise, defBody s__law_otherwise, defScope s__law_otherwise, [], []⟩) rfl
  have n__law_otherwise := He.glo_ok X G (c.d.fact 24 (f := .glo "_law_otherwise") rfl)
  obtain ⟨fd_law, F_law⟩ := c.d.def_ 25 (d := ⟨("law", none), "law", "law", defArgs s_law, defBody s_law, defScope s_law, [], []⟩) rfl
  have n_law := He.glo_ok X G (c.d.fact 25 (f := .glo "law") rfl)
  have m_abs := He.free_ok X G (c.d.fact 26 (f := .free "abs") rfl)
  have m_all := He.free_ok X G (c.d.fact 27 (f := .free "all") rfl)
  have m_int := He.free_ok X G (c.d.fact 28 (f := .free "int") rfl)
  have m_isinstance := He.free_ok X G (c.d.fact 29 (f := .free "isinstance") rfl)
  have m_len := He.free_ok X G (c.d.fact 30 (f := .free "len") rfl)
  have m_max := He.free_ok X G (c.d.fact 31 (f := .free "max") rfl)
  have m_min := He.free_ok X G (c.d.fact 32 (f := .free "min") rfl)
  have m_range := He.free_ok X G (c.d.fact 33 (f := .free "range") rfl)
  have m_repr := He.free_ok X G (c.d.fact 34 (f := .free "repr") rfl)
  have m_tuple := He.free_ok X G (c.d.fact 35 (f := .free "tuple") rfl)
  have g_MOST_FIGURE := SaysP.const c X G 0 (x := "MOST_FIGURE") (d := d_MOST_FIGURE)
  have g_MOST_STAKE := SaysP.const c X G 1 (x := "MOST_STAKE") (d := d_MOST_STAKE)
  have g_SCALES := SaysP.const c X G 2 (x := "SCALES") (d := d_SCALES)
  have g_PARTS := SaysP.const c X G 3 (x := "PARTS") (d := d_PARTS)
  have e := hfa.symm.trans n_law
  cases e
  have b := FunD.bindsA (ps := ["_law_script"]) F_law fun _ _ _ _ _ _ us hl => match us, hl with | [_], _ => rfl
  refine ⟨fd_law, fun s v => b s [v] rfl, fun base hK hG => ?_⟩
  have k_span_of_pair : FnG P w K mg base 1 _ _ ["word", "one", "other"] c_span_of_pair := ok_span_of_pair F_span_of_pair m_min m_max den_len den_real
  have h_span_of_pair : Cal P w K mg base 1 "span_of_pair" ["word", "one", "other"] c_span_of_pair := Cal.of F_span_of_pair n_span_of_pair k_span_of_pair fun _ _ _ _ _ _ us hl => match us, hl with | [_, _, _], _ => rfl
  have kk_span : ∀ n, FnG P w K mg base (1 + n) _ _ ["expression"] (cc_span n) := fun n => by
    induction n with
    | zero => exact FnG.none_
    | succ n ih => exact ok_span (k := 1 + n) F_span (Cal.of F_span n_span ih fun _ _ _ _ _ _ us hl => match us, hl with | [_], _ => rfl) h_span_of_pair m_max m_min m_abs g_MOST_FIGURE (by omega) den_len den_real
  have k_span : FnG P w K mg base 10 _ _ ["expression"] c_span := kk_span 9
  have h_span : Cal P w K mg base 10 "span" ["expression"] c_span := Cal.of F_span n_span k_span fun _ _ _ _ _ _ us hl => match us, hl with | [_], _ => rfl
  have k_bound : FnG P w K mg base 11 _ _ ["doubter"] c_bound := ok_bound F_bound h_span m_max m_abs g_SCALES den_len den_real
  have h_bound : Cal P w K mg base 11 "bound" ["doubter"] c_bound := Cal.of F_bound n_bound k_bound fun _ _ _ _ _ _ us hl => match us, hl with | [_], _ => rfl
  have k_off : FnG P w K mg base 12 _ _ ["one"] c_off := ok_off F_off h_bound g_MOST_STAKE g_PARTS den_len den_real
  have h_off : Cal P w K mg base 12 "off" ["one"] c_off := Cal.of F_off n_off k_off fun _ _ _ _ _ _ us hl => match us, hl with | [_], _ => rfl
  have k_power : FnG P w K mg base 1 _ _ ["base", "count"] c_power := ok_power F_power den_len den_real
  have h_power : Cal P w K mg base 1 "power" ["base", "count"] c_power := Cal.of F_power n_power k_power fun _ _ _ _ _ _ us hl => match us, hl with | [_, _], _ => rfl
  have k_is_borne : FnG P w K mg base 2 _ _ ["by", "count", "weight", "held", "most"] c_is_borne := ok_is_borne F_is_borne h_power g_MOST_STAKE den_len den_real
  have h_is_borne : Cal P w K mg base 2 "is_borne" ["by", "count", "weight", "held", "most"] c_is_borne := Cal.of F_is_borne n_is_borne k_is_borne fun _ _ _ _ _ _ us hl => match us, hl with | [_, _, _, _, _], _ => rfl
  have k_most_off : FnG P w K mg base 3 _ _ ["far", "days", "weight", "held"] c_most_off := ok_most_off F_most_off h_is_borne den_len den_real
  have h_most_off : Cal P w K mg base 3 "most_off" ["far", "days", "weight", "held"] c_most_off := Cal.of F_most_off n_most_off k_most_off fun _ _ _ _ _ _ us hl => match us, hl with | [_, _, _, _], _ => rfl
  have k_sure : FnG P w K mg base 12 _ _ ["one"] c_sure := ok_sure F_sure h_most_off h_bound den_len den_real
  have h_sure : Cal P w K mg base 12 "sure" ["one"] c_sure := Cal.of F_sure n_sure k_sure fun _ _ _ _ _ _ us hl => match us, hl with | [_], _ => rfl
  have k__law_hand : FnG P w K mg base 1 _ _ ["_law_script", "_law_k"] c__law_hand := ok__law_hand F__law_hand m_len m_abs m_int den_len den_real
  have h__law_hand : Cal P w K mg base 1 "_law_hand" ["_law_script", "_law_k"] c__law_hand := Cal.of F__law_hand n__law_hand k__law_hand fun _ _ _ _ _ _ us hl => match us, hl with | [_, _], _ => rfl
  have k__law_take : FnG P w K mg base 1 _ _ ["_law_hand_here", "_law_many"] c__law_take := ok__law_take F__law_take den_len den_real
  have h__law_take : Cal P w K mg base 1 "_law_take" ["_law_hand_here", "_law_many"] c__law_take := Cal.of F__law_take n__law_take k__law_take fun _ _ _ _ _ _ us hl => match us, hl with | [_, _], _ => rfl
  have k__law_of : FnG P w K mg base 2 _ _ ["_law_hand_here", "_law_some"] c__law_of := ok__law_of F__law_of h__law_take m_len den_len den_real
  have h__law_of : Cal P w K mg base 2 "_law_of" ["_law_hand_here", "_law_some"] c__law_of := Cal.of F__law_of n__law_of k__law_of fun _ _ _ _ _ _ us hl => match us, hl with | [_, _], _ => rfl
  have k__law_figure : FnG P w K mg base 3 _ _ ["_law_hand_here"] c__law_figure := ok__law_figure F__law_figure h__law_of h__law_take den_len den_real
  have h__law_figure : Cal P w K mg base 3 "_law_figure" ["_law_hand_here"] c__law_figure := Cal.of F__law_figure n__law_figure k__law_figure fun _ _ _ _ _ _ us hl => match us, hl with | [_], _ => rfl
  have k__law_registers : FnG P w K mg base 4 _ _ ["_law_hand_here"] c__law_registers := ok__law_registers F__law_registers h__law_figure m_tuple m_range den_len den_real
  have h__law_registers : Cal P w K mg base 4 "_law_registers" ["_law_hand_here"] c__law_registers := Cal.of F__law_registers n__law_registers k__law_registers fun _ _ _ _ _ _ us hl => match us, hl with | [_], _ => rfl
  have k__law_leaf : FnG P w K mg base 4 _ _ ["_law_hand_here", "_law_many"] c__law_leaf := ok__law_leaf F__law_leaf h__law_take h__law_figure den_len den_real
  have h__law_leaf : Cal P w K mg base 4 "_law_leaf" ["_law_hand_here", "_law_many"] c__law_leaf := Cal.of F__law_leaf n__law_leaf k__law_leaf fun _ _ _ _ _ _ us hl => match us, hl with | [_, _], _ => rfl
  have kk__law_expression : ∀ n, FnG P w K mg base (4 + n) _ _ ["_law_hand_here", "_law_many", "_law_level", "_law_jumps"] (cc__law_expression n) := fun n => by
    induction n with
    | zero => exact FnG.none_
    | succ n ih => exact ok__law_expression (k := 4 + n) F__law_expression h__law_of h__law_leaf (Cal.of F__law_expression n__law_expression ih fun _ _ _ _ _ _ us hl => match us, hl with | [_, _, _, _], _ => rfl) h__law_take h__law_figure (by omega) den_len den_real
  have k__law_expression : FnG P w K mg base 9 _ _ ["_law_hand_here", "_law_many", "_law_level", "_law_jumps"] c__law_expression := kk__law_expression 5
  have h__law_expression : Cal P w K mg base 9 "_law_expression" ["_law_hand_here", "_law_many", "_law_level", "_law_jumps"] c__law_expression := Cal.of F__law_expression n__law_expression k__law_expression fun _ _ _ _ _ _ us hl => match us, hl with | [_, _, _, _], _ => rfl
  have k__law_stake : FnG P w K mg base 10 _ _ ["_law_hand_here", "_law_many", "_law_level", "_law_jumps"] c__law_stake := ok__law_stake F__law_stake h__law_of h__law_take h__law_expression den_len den_real
  have h__law_stake : Cal P w K mg base 10 "_law_stake" ["_law_hand_here", "_law_many", "_law_level", "_law_jumps"] c__law_stake := Cal.of F__law_stake n__law_stake k__law_stake fun _ _ _ _ _ _ us hl => match us, hl with | [_, _, _, _], _ => rfl
  have kk__law_deeds : ∀ n, FnG P w K mg base (3 + n) _ _ ["_law_hand_here", "_law_many", "_law_deep"] (cc__law_deeds n) := fun n => by
    induction n with
    | zero => exact FnG.none_
    | succ n ih => exact ok__law_deeds (k := 3 + n) F__law_deeds h__law_take h__law_of h__law_figure (Cal.of F__law_deeds n__law_deeds ih fun _ _ _ _ _ _ us hl => match us, hl with | [_, _, _], _ => rfl) m_range m_tuple (by omega) den_len den_real
  have k__law_deeds : FnG P w K mg base 6 _ _ ["_law_hand_here", "_law_many", "_law_deep"] c__law_deeds := kk__law_deeds 3
  have h__law_deeds : Cal P w K mg base 6 "_law_deeds" ["_law_hand_here", "_law_many", "_law_deep"] c__law_deeds := Cal.of F__law_deeds n__law_deeds k__law_deeds fun _ _ _ _ _ _ us hl => match us, hl with | [_, _, _], _ => rfl
  have k__law_doubter : FnG P w K mg base 11 _ _ ["_law_hand_here", "_law_many", "_law_level", "_law_jumps"] c__law_doubter := ok__law_doubter F__law_doubter h__law_take h__law_of h__law_stake h__law_deeds h__law_registers m_tuple m_range den_len den_real
  have h__law_doubter : Cal P w K mg base 11 "_law_doubter" ["_law_hand_here", "_law_many", "_law_level", "_law_jumps"] c__law_doubter := Cal.of F__law_doubter n__law_doubter k__law_doubter fun _ _ _ _ _ _ us hl => match us, hl with | [_, _, _, _], _ => rfl
  have k__law_one : FnG P w K mg base 5 _ _ ["_law_hand_here", "_law_doubter_here"] c__law_one := ok__law_one F__law_one h__law_of h__law_take h__law_registers den_len den_real
  have h__law_one : Cal P w K mg base 5 "_law_one" ["_law_hand_here", "_law_doubter_here"] c__law_one := Cal.of F__law_one n__law_one k__law_one fun _ _ _ _ _ _ us hl => match us, hl with | [_, _], _ => rfl
  have kk__law_span : ∀ n, FnG P w K mg base (0 + n) _ _ ["_law_expression_here"] (cc__law_span n) := fun n => by
    induction n with
    | zero => exact FnG.none_
    | succ n ih => exact ok__law_span (k := 0 + n) F__law_span (Cal.of F__law_span n__law_span ih fun _ _ _ _ _ _ us hl => match us, hl with | [_], _ => rfl) m_isinstance m_tuple m_max m_min den_len den_real
  have k__law_span : FnG P w K mg base 9 _ _ ["_law_expression_here"] c__law_span := kk__law_span 9
  have h__law_span : Cal P w K mg base 9 "_law_span" ["_law_expression_here"] c__law_span := Cal.of F__law_span n__law_span k__law_span fun _ _ _ _ _ _ us hl => match us, hl with | [_], _ => rfl
  have k__law_bound : FnG P w K mg base 10 _ _ ["_law_doubter_here"] c__law_bound := ok__law_bound F__law_bound h__law_span m_max m_abs den_len den_real
  have h__law_bound : Cal P w K mg base 10 "_law_bound" ["_law_doubter_here"] c__law_bound := Cal.of F__law_bound n__law_bound k__law_bound fun _ _ _ _ _ _ us hl => match us, hl with | [_], _ => rfl
  have k__law_power : FnG P w K mg base 1 _ _ ["_law_number", "_law_many"] c__law_power := ok__law_power F__law_power m_range den_len den_real
  have h__law_power : Cal P w K mg base 1 "_law_power" ["_law_number", "_law_many"] c__law_power := Cal.of F__law_power n__law_power k__law_power fun _ _ _ _ _ _ us hl => match us, hl with | [_, _], _ => rfl
  have k__law_most : FnG P w K mg base 2 _ _ ["_law_by", "_law_count", "_law_heavy", "_law_has"] c__law_most := ok__law_most F__law_most h__law_power m_range den_len den_real
  have h__law_most : Cal P w K mg base 2 "_law_most" ["_law_by", "_law_count", "_law_heavy", "_law_has"] c__law_most := Cal.of F__law_most n__law_most k__law_most fun _ _ _ _ _ _ us hl => match us, hl with | [_, _, _, _], _ => rfl
  have k__law_right : FnG P w K mg base 13 _ _ ["_law_one_here"] c__law_right := ok__law_right F__law_right h__law_bound h_bound h__law_most h_sure h_off m_repr den_len den_real
  have h__law_right : Cal P w K mg base 13 "_law_right" ["_law_one_here"] c__law_right := Cal.of F__law_right n__law_right k__law_right fun _ _ _ _ _ _ us hl => match us, hl with | [_], _ => rfl
  have k__law_otherwise : FnG P w K mg base 5 _ _ ["_law_hand_here", "_law_one_here", "_law_many"] c__law_otherwise := ok__law_otherwise F__law_otherwise h__law_registers den_len den_real
  have h__law_otherwise : Cal P w K mg base 5 "_law_otherwise" ["_law_hand_here", "_law_one_here", "_law_many"] c__law_otherwise := Cal.of F__law_otherwise n__law_otherwise k__law_otherwise fun _ _ _ _ _ _ us hl => match us, hl with | [_, _, _], _ => rfl
  exact ok_law F_law h__law_hand h__law_take h__law_one h__law_doubter h__law_otherwise h__law_right h_off h_sure m_range m_max m_min m_len m_all den_len den_real
end Q44
set_option Elab.async false
set_option linter.all false
set_option maxRecDepth 100000
set_option maxHeartbeats 0
namespace Q44
open PySem PySem.Spec PyProof.Rows L2 Pv
theorem e_span_of_pair : c_span_of_pair = Pv.c_span_of_pair := rfl
theorem ee_span : ∀ n, cc_span n = Pv.cc_span n
  | 0 => rfl
  | n + 1 => by
    rw [cc_span, Pv.cc_span, ← ee_span n]
    rfl
theorem e_span : c_span = Pv.cc_span 9 := ee_span 9
theorem e_bound : c_bound = Pv.c_bound 9 := by
  rw [c_bound, e_span]
  rfl
theorem e_off : c_off = Pv.c_off 9 := by
  rw [c_off, e_bound]
  rfl
theorem e_power : c_power = Pv.c_power := rfl
theorem e_is_borne : c_is_borne = Pv.c_is_borne := rfl
theorem e_most_off : c_most_off = Pv.c_most_off := rfl
theorem e_sure : c_sure = Pv.c_sure 9 := by
  rw [c_sure, e_bound]
  rfl
theorem e__law_hand : c__law_hand = Pv.c_hand := rfl
theorem e__law_take : c__law_take = Pv.c_take := rfl
theorem e__law_of : c__law_of = Pv.c_of := rfl
theorem e__law_figure : c__law_figure = Pv.c_figure := rfl
theorem e__law_registers : c__law_registers = Pv.c_registers := rfl
theorem e__law_leaf : c__law_leaf = Pv.c_leaf := rfl
theorem ee__law_expression : ∀ n, cc__law_expression n = Pv.cc_expr n
  | 0 => rfl
  | n + 1 => by
    rw [cc__law_expression, Pv.cc_expr, ← ee__law_expression n]
    rfl
theorem e__law_expression : c__law_expression = Pv.cc_expr 5 := ee__law_expression 5
theorem e__law_stake : c__law_stake = Pv.c_stake := by
  rw [c__law_stake, e__law_expression]
  rfl
theorem ee__law_deeds : ∀ n, cc__law_deeds n = Pv.cc_deeds n
  | 0 => rfl
  | n + 1 => by
    rw [cc__law_deeds, Pv.cc_deeds, ← ee__law_deeds n]
    rfl
theorem e__law_deeds : c__law_deeds = Pv.cc_deeds 3 := ee__law_deeds 3
theorem e__law_doubter : c__law_doubter = Pv.c_doubter 3 := by
  rw [c__law_doubter, e__law_stake, e__law_deeds]
  rfl
theorem e__law_one : c__law_one = Pv.c_one := rfl
theorem e__law_power : c__law_power = Pv.c_lpower := rfl
theorem e__law_most : c__law_most = Pv.c_lmost := rfl
end Q44
set_option Elab.async false
set_option linter.all false
set_option maxRecDepth 100000
set_option maxHeartbeats 0
namespace Q44
open PySem PySem.Spec PyProof.Rows L2 Pv
theorem lL {T : Sto} {ds : List D} : listOf T (.lst ds) = some ds := rfl
theorem r_min4 {T : Sto} {a b c d : Int} : gMin1 T (.lst [.int a, .int b, .int c, .int d]) = some (.int (min (min (min a b) c) d)) := rfl
theorem r_max4 {T : Sto} {a b c d : Int} : gMax1 T (.lst [.int a, .int b, .int c, .int d]) = some (.int (max (max (max a b) c) d)) := rfl
theorem CV_lspan {many : Nat} : ∀ (e : Xp) {n : Nat} {S : Sto} {Q : D → Sto → Prop}, exOk many e → lev e < n → lev e ≤ 20 → Q (spnD e) S → CV (cc__law_span n) [exD e] S Q := by
  intro e
  induction e with
  | fig m =>
    intro n S Q h hl hl2 q
    cases n with
    | zero => omega
    | succ n =>
      refine CV_plain rfl ?_
      unfold b__law_span exD
      (simp_arith! [])
      exact RtP_same rfl q
  | reg i =>
    intro n S Q h hl hl2 q
    cases n with
    | zero => omega
    | succ n =>
      refine CV_plain rfl ?_
      unfold b__law_span exD
      (simp_arith! [])
      exact RtP_same rfl q
  | shr i =>
    intro n S Q h hl hl2 q
    cases n with
    | zero => omega
    | succ n =>
      refine CV_plain rfl ?_
      unfold b__law_span exD
      (simp_arith! [])
      exact RtP_same rfl q
  | tim m a ih =>
    intro n S Q h hl hl2 q
    obtain ⟨h1, h2, h3⟩ := h
    have l1 : lev a + 1 < n := hl
    have l2 : lev a + 1 ≤ 20 := hl2
    obtain ⟨s1, s2⟩ := sp_sm h3 (show lev a ≤ 20 by omega)
    cases n with
    | zero => omega
    | succ n =>
      refine CV_plain rfl ?_
      unfold b__law_span exD
      (simp_arith! [LV_cons, LV_nil, isT_ex])
      refine ih h3 (by omega) (by omega) ?_
      unfold spnD at *
      (simp_arith! [LV_cons, LV_nil, SV_for_cons, SV_for_nil, turn_])
      exact ⟨sm_mul (sm_k (by omega)) s1, sm_mul (sm_k (by omega)) s2, RtP_same rfl q⟩
  | byr i a ih =>
    intro n S Q h hl hl2 q
    obtain ⟨h1, h3⟩ := h
    have l1 : lev a + 1 < n := hl
    have l2 : lev a + 1 ≤ 20 := hl2
    obtain ⟨s1, s2⟩ := sp_sm h3 (show lev a ≤ 20 by omega)
    have le := sp_le a h3
    cases n with
    | zero => omega
    | succ n =>
      refine CV_plain rfl ?_
      unfold b__law_span exD
      (simp_arith! [LV_cons, LV_nil, isT_ex])
      refine ih h3 (by omega) (by omega) ?_
      unfold spnD at *
      (simp_arith! [LV_cons, LV_nil, SV_for_cons, SV_for_nil, turn_, r_min4, r_max4])
      refine ⟨sm_mul (sm_k (by decide)) s1, sm_mul (sm_k (by decide)) s2, sm_mul (sm_k (by decide)) s1, sm_mul (sm_k (by decide)) s2, RtP_same rfl ?_⟩
      have e1 : min (min (min (1000 * (sp a).1) (1000 * (sp a).2)) (-1000 * (sp a).1)) (-1000 * (sp a).2) = (sp (.byr i a)).1 := by
        simp only [sp]
        repeat' split
        all_goals omega
      have e2 : max (max (max (1000 * (sp a).1) (1000 * (sp a).2)) (-1000 * (sp a).1)) (-1000 * (sp a).2) = (sp (.byr i a)).2 := by
        simp only [sp]
        repeat' split
        all_goals omega
      rw [e1, e2]
      exact q
  | whn i f a b iha ihb =>
    intro n S Q h hl hl2 q
    obtain ⟨h1, h2, h3, h4, h5⟩ := h
    have l1 : max (lev a) (lev b) + 1 < n := hl
    have l2 : max (lev a) (lev b) + 1 ≤ 20 := hl2
    cases n with
    | zero => omega
    | succ n =>
      refine CV_plain rfl ?_
      unfold b__law_span exD
      (simp_arith! [LV_cons, LV_nil, isT_ex])
      refine iha h4 (by omega) (by omega) ?_
      unfold spnD at *
      (simp_arith! [LV_cons, LV_nil, isT_ex])
      refine ihb h5 (by omega) (by omega) ?_
      (simp_arith! [LV_cons, LV_nil, isT_ex, GV_tl, lL])
      exact RtP_same rfl q
  | whr i f a b iha ihb =>
    intro n S Q h hl hl2 q
    obtain ⟨h1, h2, h3, h4, h5⟩ := h
    have l1 : max (lev a) (lev b) + 1 < n := hl
    have l2 : max (lev a) (lev b) + 1 ≤ 20 := hl2
    cases n with
    | zero => omega
    | succ n =>
      refine CV_plain rfl ?_
      unfold b__law_span exD
      (simp_arith! [LV_cons, LV_nil, isT_ex])
      refine iha h4 (by omega) (by omega) ?_
      unfold spnD at *
      (simp_arith! [LV_cons, LV_nil, isT_ex])
      refine ihb h5 (by omega) (by omega) ?_
      (simp_arith! [LV_cons, LV_nil, isT_ex, GV_tl, lL])
      exact RtP_same rfl q
  | sum a b iha ihb =>
    intro n S Q h hl hl2 q
    obtain ⟨h4, h5⟩ := h
    have l1 : max (lev a) (lev b) + 1 < n := hl
    have l2 : max (lev a) (lev b) + 1 ≤ 20 := hl2
    cases n with
    | zero => omega
    | succ n =>
      refine CV_plain rfl ?_
      unfold b__law_span exD
      (simp_arith! [LV_cons, LV_nil, isT_ex])
      refine iha h4 (by omega) (by omega) ?_
      unfold spnD at *
      (simp_arith! [LV_cons, LV_nil, isT_ex])
      refine ihb h5 (by omega) (by omega) ?_
      (simp_arith! [LV_cons, LV_nil, isT_ex, GV_tl, lL])
      exact RtP_same rfl q
  | les a b iha ihb =>
    intro n S Q h hl hl2 q
    obtain ⟨h4, h5⟩ := h
    have l1 : max (lev a) (lev b) + 1 < n := hl
    have l2 : max (lev a) (lev b) + 1 ≤ 20 := hl2
    cases n with
    | zero => omega
    | succ n =>
      refine CV_plain rfl ?_
      unfold b__law_span exD
      (simp_arith! [LV_cons, LV_nil, isT_ex])
      refine iha h4 (by omega) (by omega) ?_
      unfold spnD at *
      (simp_arith! [LV_cons, LV_nil, isT_ex])
      refine ihb h5 (by omega) (by omega) ?_
      (simp_arith! [LV_cons, LV_nil, isT_ex, GV_tl, lL])
      exact RtP_same rfl q
  | lst a b iha ihb =>
    intro n S Q h hl hl2 q
    obtain ⟨h4, h5⟩ := h
    have l1 : max (lev a) (lev b) + 1 < n := hl
    have l2 : max (lev a) (lev b) + 1 ≤ 20 := hl2
    cases n with
    | zero => omega
    | succ n =>
      refine CV_plain rfl ?_
      unfold b__law_span exD
      (simp_arith! [LV_cons, LV_nil, isT_ex])
      refine iha h4 (by omega) (by omega) ?_
      unfold spnD at *
      (simp_arith! [LV_cons, LV_nil, isT_ex])
      refine ihb h5 (by omega) (by omega) ?_
      (simp_arith! [LV_cons, LV_nil, isT_ex, GV_tl, lL])
      exact RtP_same rfl q
  | mst a b iha ihb =>
    intro n S Q h hl hl2 q
    obtain ⟨h4, h5⟩ := h
    have l1 : max (lev a) (lev b) + 1 < n := hl
    have l2 : max (lev a) (lev b) + 1 ≤ 20 := hl2
    cases n with
    | zero => omega
    | succ n =>
      refine CV_plain rfl ?_
      unfold b__law_span exD
      (simp_arith! [LV_cons, LV_nil, isT_ex])
      refine iha h4 (by omega) (by omega) ?_
      unfold spnD at *
      (simp_arith! [LV_cons, LV_nil, isT_ex])
      refine ihb h5 (by omega) (by omega) ?_
      (simp_arith! [LV_cons, LV_nil, isT_ex, GV_tl, lL])
      exact RtP_same rfl q
end Q44
set_option Elab.async false
set_option linter.all false
set_option maxRecDepth 100000
set_option maxHeartbeats 0
namespace Q44
open PySem PySem.Spec PyProof.Rows L2 Pv
theorem ends_nn {d : Dbt} {k : Int} (h : k ∈ ends d) : 0 ≤ k := by
  unfold ends at h
  obtain ⟨l, hl, hk⟩ := List.mem_flatten.mp h
  obtain ⟨e, he, rfl⟩ := List.mem_map.mp hl
  simp only [List.mem_cons, List.not_mem_nil, or_false] at hk
  rcases hk with rfl | rfl <;> (unfold absI; split <;> omega)
theorem ends_in {d : Dbt} {e : Xp} (h : e ∈ d.stakes) : absI (sp e).1 ∈ ends d ∧ absI (sp e).2 ∈ ends d := by
  unfold ends
  exact ⟨List.mem_flatten.mpr ⟨_, List.mem_map.mpr ⟨e, h, rfl⟩, by simp⟩, List.mem_flatten.mpr ⟨_, List.mem_map.mpr ⟨e, h, rfl⟩, by simp⟩⟩
theorem CV_lbound {S : Sto} {many : Nat} {d : Dbt} {Q : D → Sto → Prop} (g : OneG many d) (q : Q (.int (bnd d)) S) : CV c__law_bound [dbD d] S Q := by
  have hp := pw_sc g.sc
  rw [c__law_bound]
  refine CV_plain rfl ?_
  unfold b__law_bound
  have i3 : ∀ T : Sto, fIx T (dbD d) (.int 3) = some (.tup (d.stakes.map exD)) := fun _ => rfl
  have i1 : ∀ T : Sto, fIx T (dbD d) (.int 1) = some (.int d.scale) := fun _ => rfl
  (simp_arith! [i3])
  refine SV_forI (fun r e' S' => ∃ (es : List Xp) (m : Int) (x2 x4 x5 : Option D), r = es.map exD ∧ (∀ e, e ∈ es → e ∈ d.stakes) ∧ 0 ≤ m ∧ (m = 0 ∨ m ∈ ends d) ∧ (∀ e, e ∈ d.stakes → e ∈ es ∨ (absI (sp e).1 ≤ m ∧ absI (sp e).2 ≤ m)) ∧ S' = S ∧ e' = [some (dbD d), some (.int m), x2, none, x4, x5]) ⟨d.stakes, 0, none, none, none, rfl, fun e h => h, by omega, .inl rfl, fun e h => .inl h, rfl, rfl⟩ ?_ ?_
  · rintro x r e' S' K ⟨es, m, x2, x4, x5, hr, hs, m0, m1, m2, rfl, rfl⟩ hK
    cases es with
    | nil => cases hr
    | cons e es =>
      rw [List.map_cons] at hr
      obtain ⟨rfl, rfl⟩ := List.cons.inj hr
      have he := hs e (List.mem_cons_self ..)
      obtain ⟨g1, g2⟩ := g.st e he
      obtain ⟨n1, n2⟩ := ends_in he
      (simp_arith! [])
      show CV (cc__law_span 9) _ _ _
      refine CV_lspan e g1 (by omega) (by omega) ?_
      unfold spnD
      (simp_arith! [r_max3])
      have a1 : (if (sp e).1 < 0 then -(sp e).1 else (sp e).1) = absI (sp e).1 := rfl
      have a2 : (if (sp e).2 < 0 then -(sp e).2 else (sp e).2) = absI (sp e).2 := rfl
      rw [a1, a2]
      generalize hv : (if absI (sp e).2 > (if absI (sp e).1 > m then absI (sp e).1 else m) then absI (sp e).2 else (if absI (sp e).1 > m then absI (sp e).1 else m)) = v
      have v1 : m ≤ v ∧ absI (sp e).1 ≤ v ∧ absI (sp e).2 ≤ v := by rw [← hv]; repeat' split <;> omega
      have v2 : v = m ∨ v = absI (sp e).1 ∨ v = absI (sp e).2 := by
        rw [← hv]
        by_cases c1 : absI (sp e).1 > m
        · rw [if_pos c1]
          split
          · exact .inr (.inr rfl)
          · exact .inr (.inl rfl)
        · rw [if_neg c1]
          split
          · exact .inr (.inr rfl)
          · exact .inl rfl
      refine ⟨(fun n hn => nomatch hn), hK _ _ ⟨es, v, _, _, _, rfl, fun e he => hs e (List.mem_cons_of_mem _ he), by omega, ?_, fun e2 he2 => ?_, rfl, rfl⟩⟩
      · rcases v2 with rfl | rfl | rfl
        · exact m1
        · exact .inr n1
        · exact .inr n2
      · rcases m2 e2 he2 with h | h
        · rcases List.mem_cons.mp h with rfl | h
          · exact .inr ⟨v1.2.1, v1.2.2⟩
          · exact .inl h
        · exact .inr ⟨by omega, by omega⟩
  · rintro e' S' ⟨es, m, x2, x4, x5, hr, hs, m0, m1, m2, rfl, rfl⟩
    cases es with
    | cons e es => cases hr
    | nil =>
      have hl := ends_len d
      have h0 := g.l0
      obtain ⟨k1, k2⟩ := maxL_mem (show 0 < (ends d).length by omega)
      have em : m = maxL (ends d) := by
        have u1 : maxL (ends d) ≤ m := by
          have k1' := k1
          unfold ends at k1'
          obtain ⟨l, hl, hk⟩ := List.mem_flatten.mp k1'
          obtain ⟨e, he, rfl⟩ := List.mem_map.mp hl
          rcases m2 e he with h | h
          · cases h
          · simp only [List.mem_cons, List.not_mem_nil, or_false] at hk
            rcases hk with hk | hk
            · show maxL (ends d) ≤ m
              have : maxL (ends d) = absI (sp e).1 := hk
              omega
            · have : maxL (ends d) = absI (sp e).2 := hk
              omega
        rcases m1 with rfl | h
        · have := ends_nn k1
          omega
        · have := k2 m h
          omega
      (simp_arith! [i1, sc_at g.sc])
      refine ⟨sm_div (sm_k (by omega)) (by omega), RtP_same rfl ?_⟩
      unfold bnd at q
      rw [← em] at q
      have ec : (m + 2 ^ d.scale - 1).fdiv (2 ^ d.scale) = -((-m).fdiv (2 ^ d.scale)) := by
        rw [Int.fdiv_eq_ediv_of_nonneg _ (by omega), Int.fdiv_eq_ediv_of_nonneg _ (by omega)]
        have c5 := g.sc
        have : d.scale = 0 ∨ d.scale = 1 ∨ d.scale = 2 ∨ d.scale = 3 ∨ d.scale = 4 := by omega
        rcases this with h | h | h | h | h <;> rw [h] <;> omega
      rw [ec]
      exact q
theorem on_dat {d : Dbt} {o : One} (h : Dat 12 3000 (dbD d)) (rl : o.rs.length = 4) (rb : ∀ r, r ∈ o.rs → -1000 ≤ r ∧ r ≤ 1000) (n1 : o.weight.natAbs < 10 ^ 13) (n2 : o.purse.natAbs < 10 ^ 13) (n3 : o.owed.natAbs < 10 ^ 13) (n4 : o.days.natAbs < 10 ^ 13) (n5 : o.got.natAbs < 10 ^ 13) : Dat 13 3100 (onD (dbD d) o) := by
  have s3 : Dat 1 8 (.tup (o.rs.map D.int)) := (Dat.ints fun n hn => by have := rb n hn; omega).mono (Nat.le_refl _) (by rw [rl]; exact Nat.le_refl _)
  have i : ∀ {z : Int}, z.natAbs < 10 ^ 13 → Dat 12 1 (.int z) := fun hz => (Dat.int hz).mono (by decide) (Nat.le_refl _)
  have w : Dat 12 1 (.str "one") := (Dat.word (by decide +kernel) (by decide +kernel)).mono (by decide) (Nat.le_refl _)
  exact ((DatL.cons w (DatL.cons h (DatL.cons (s3.mono (by decide) (Nat.le_refl _)) (DatL.cons (i n1) (DatL.cons (i n2) (DatL.cons (i n3) (DatL.cons (i n4) (DatL.cons (i n5) DatL.nil)))))))).tup).mono (by decide) (by omega)
/-- ones that this law asks of -/
structure Ask (many : Nat) (d : Dbt) (o : One) : Prop where
  g : OneG many d
  dt : Dat 12 3000 (dbD d)
  rl : o.rs.length = 4
  rb : ∀ r, r ∈ o.rs → -1000 ≤ r ∧ r ≤ 1000
  we : 0 ≤ o.weight ∧ o.weight ≤ 10 ^ 12
  pu : 0 ≤ o.purse ∧ o.purse ≤ 3 * 10 ^ 12
  ow : 0 ≤ o.owed ∧ o.owed ≤ 3 * 10 ^ 12
  da : 0 ≤ o.days ∧ o.days ≤ 40
  go : -(10 ^ 11) ≤ o.got ∧ o.got ≤ 10 ^ 11
theorem Ask.dat {many : Nat} {d : Dbt} {o : One} (a : Ask many d o) : Dat 13 3100 (onD (dbD d) o) := by
  have h1 := a.we
  have h2 := a.pu
  have h3 := a.ow
  have h4 := a.da
  have h5 := a.go
  exact on_dat a.dt a.rl a.rb (by omega) (by omega) (by omega) (by omega) (by omega)
theorem Ask.off {many : Nat} {d : Dbt} {o : One} (a : Ask many d o) {S : Sto} {Q : D → Sto → Prop} (q : Q (.int ((500 * o.got).fdiv (1000000000 * bnd d))) S) : CV (Pv.c_off 9) [onD (dbD d) o] S Q := by
  have h5 := a.go
  exact CV_off a.g (by decide) (bt.mono (k := 60) (by unfold bt; omega) (by decide)) q
theorem Ask.sure {many : Nat} {d : Dbt} {o : One} (a : Ask many d o) {S : Sto} {Q : D → Sto → Prop} (q : ∀ r, IsMost (bnd d) o.days.toNat o.weight (o.purse + o.owed) r → Q (optD r) S) : CV (Pv.c_sure 9) [onD (dbD d) o] S Q := by
  have h1 := a.we
  have h2 := a.pu
  have h3 := a.ow
  have h4 := a.da
  exact CV_sure a.g (by decide) (show o.days = ((o.days.toNat : Nat) : Int) by omega) (by omega) (bt.mono (k := 60) (by unfold bt; omega) (by decide)) (bt.mono (k := 60) (by unfold bt; omega) (by decide)) q
theorem right_ok {S : Sto} {many : Nat} {d : Dbt} {o : One} {Q : D → Sto → Prop} (a : Ask many d o) (q : Q (.bl true) S) : CV c__law_right [onD (dbD d) o] S Q := by
  have h1 := a.we
  have h2 := a.pu
  have h3 := a.ow
  have h4 := a.da
  have h5 := a.go
  obtain ⟨b1, b2, _⟩ := bnd_in a.g
  rw [c__law_right, e_bound, e__law_most, e_sure, e_off]
  refine CV_plain rfl ?_
  unfold b__law_right
  have i1 : ∀ T : Sto, fIx T (onD (dbD d) o) (.int 1) = some (dbD d) := fun _ => rfl
  have i3 : ∀ T : Sto, fIx T (onD (dbD d) o) (.int 3) = some (.int o.weight) := fun _ => rfl
  have i4 : ∀ T : Sto, fIx T (onD (dbD d) o) (.int 4) = some (.int o.purse) := fun _ => rfl
  have i5 : ∀ T : Sto, fIx T (onD (dbD d) o) (.int 5) = some (.int o.owed) := fun _ => rfl
  have i6 : ∀ T : Sto, fIx T (onD (dbD d) o) (.int 6) = some (.int o.days) := fun _ => rfl
  have i7 : ∀ T : Sto, fIx T (onD (dbD d) o) (.int 7) = some (.int o.got) := fun _ => rfl
  have rp : ∀ T : Sto, gReprB T (onD (dbD d) o) = some (.str (pd (onD (dbD d) o)).shown) := fun T => a.dat.repr (by decide) (by decide)
  have rb : ∀ T : Sto, gReprB T (.int (bnd d)) = some (.str (pd (.int (bnd d))).shown) := fun T => (Dat.int (z := bnd d) (by omega)).repr (by decide) (by decide)
  (simp_arith! [rp, i1])
  refine CV_lbound a.g ?_
  (simp_arith! [i1])
  refine CV_bound a.g.sc a.g.l0 a.g.l1 (fun e he => ⟨(a.g.st e he).1, by have := (a.g.st e he).2; omega, by have := (a.g.st e he).2; omega⟩) ?_
  have p9 : (10 : Int) ^ Int.toNat 9 = 10 ^ 9 := rfl
  have k9 : powOk 10 9 = true := by decide +kernel
  (simp_arith! [rb, r_neSs, i3, i4, i5, i6, i7, p9, k9])
  refine ⟨sm_mul (sm_k (by decide)) (sm_k (by omega)), sm_mul (sm_k (by decide)) (sm_k (by omega)), sm_div (sm_k (by omega)) (by omega), ?_⟩
  have ed : o.days = ((o.days.toNat : Nat) : Int) := by omega
  have lm : ∀ {P : D → Sto → Prop}, (∀ r, IsMost (bnd d) o.days.toNat o.weight (o.purse + o.owed) r → P (optD r) S) → CV Pv.c_lmost [.int (bnd d), .int o.days, .int o.weight, .int (o.purse + o.owed)] S P := fun {P} hP => by
    have := CV_lmost (S := S) (Q := P) (n := o.days.toNat) b1 b2 (by omega) (bt.mono (k := 60) (show bt 60 o.weight by unfold bt; omega) (by decide)) (bt.mono (k := 60) (show bt 60 (o.purse + o.owed) by unfold bt; omega) (by decide)) hP
    rw [← ed] at this
    exact this
  refine lm fun r hr => ?_
  (simp_arith! [])
  refine a.off (a.sure fun r2 hr2 => ?_)
  rw [hr2.uniq hr]
  have p9' : (10 : Int) ^ 9 * bnd d = 1000000000 * bnd d := rfl
  rw [p9']
  have dz : Dat 1 6 (.lst [.int ((500 * o.got).fdiv (1000000000 * bnd d)), optD r]) := by
    have z1 : ((500 * o.got).fdiv (1000000000 * bnd d)).natAbs < 10 ^ 13 := by
      rw [Int.fdiv_eq_ediv_of_nonneg _ (by omega)]
      have a1 : -(10 ^ 12) ≤ (500 * o.got) / (1000000000 * bnd d) := by
        refine Int.le_ediv_of_mul_le (by omega) ?_
        omega
      have a2 : (500 * o.got) / (1000000000 * bnd d) ≤ 10 ^ 12 := by
        refine Int.ediv_le_of_le_mul (by omega) ?_
        omega
      omega
    have z2 : Dat 0 1 (optD r) := by
      cases r with
      | none => exact ⟨rfl, rfl, Nat.le_refl _, Nat.le_refl _, rfl⟩
      | some u =>
        obtain ⟨y1, y2, _⟩ := hr
        exact Dat.int (by omega)
    have := DatL.cons (Dat.int z1) (DatL.cons z2 DatL.nil)
    exact ⟨this.br, this.sh, by show depL _ + 1 ≤ 1; have := this.dp; omega, Nat.le_trans this.ct (by decide), this.ok⟩
  have rz : ∀ T : Sto, gReprB T (.lst [.int ((500 * o.got).fdiv (1000000000 * bnd d)), optD r]) = some (.str (pd (.lst [.int ((500 * o.got).fdiv (1000000000 * bnd d)), optD r])).shown) := fun T => dz.repr (by decide) (by decide)
  (simp_arith! [rz, r_eqSs, rp])
  exact RtP_same rfl q
def bareDb (many : Nat) (d : Dbt) (rs : List Int) : Dbt := ⟨"other", d.scale, rs, d.stakes, List.replicate many []⟩
theorem db_one {many : Nat} {d : Dbt} (h : DbOk many 2 d) (hm : many = 2 ∨ many = 3) : OneG many d ∧ Dat 12 3000 (dbD d) := by
  have p := pw_sc h.sc
  refine ⟨⟨h.sc, by rw [h.sl]; omega, by rw [h.sl]; omega, fun e he => ⟨(h.st e he).1, by have := (h.st e he).2.1; omega⟩, fun e he => ?_⟩, (h.dat (by omega)).mono (by decide) (by decide)⟩
  obtain ⟨_, _, h1, h2⟩ := h.st e he
  omega
theorem bare_one {many : Nat} {d : Dbt} {rs : List Int} (h : DbOk many 2 d) (hm : many = 2 ∨ many = 3) (rl : rs.length = 4) (rb : ∀ r, r ∈ rs → -1000 ≤ r ∧ r ≤ 1000) : OneG many (bareDb many d rs) ∧ Dat 12 3000 (dbD (bareDb many d rs)) := by
  obtain ⟨g, _⟩ := db_one h hm
  refine ⟨⟨g.sc, g.l0, g.l1, g.st, g.fa⟩, (Dbt.dat (l := 4) (d := bareDb many d rs) (many := many) (by omega) ⟨by show shortB 13 (.str "other") = true; decide +kernel, by show okD (.str "other") = true; decide +kernel⟩ g.sc rl rb h.sl (fun e he => ⟨(h.st e he).1, (h.st e he).2.1⟩) (by simp [bareDb]) fun x hx => ?_).mono (by decide) (by decide)⟩
  rw [List.eq_of_mem_replicate hx]
  exact DatL.nil.mono (Nat.le_refl _) (Nat.zero_le _)
theorem on_ask {many : Nat} {d : Dbt} {o : One} (h : DbOk many 2 d) (hm : many = 2 ∨ many = 3) (k : OnOk o) : Ask many d o := by
  obtain ⟨g, dt⟩ := db_one h hm
  have h1 := k.we
  have h2 := k.pu
  have h3 := k.ow
  have h4 := k.da
  have h5 := k.go
  exact ⟨g, dt, k.rl, k.rb, by omega, by omega, by omega, by omega, by omega⟩
theorem other_ok {S : Sto} {h n many : Nat} {d : Dbt} {o : One} {Q : D → Sto → Prop} (H : HD n S h) (hn : n + 24 ≤ 1000000) (hd : DbOk many 2 d) (hm : many = 2 ∨ many = 3) (ho : OnOk o)
    (q : ∀ (r1 r2 : List Int) S', r1.length = 4 → (∀ r, r ∈ r1 → -1000 ≤ r ∧ r ≤ 1000) → r2.length = 4 → (∀ r, r ∈ r2 → -1000 ≤ r ∧ r ≤ 1000) → St h (n + 24) S S' → Q (.lst [onD (dbD (bareDb many d r1)) ⟨r2, o.weight, o.purse, o.owed, o.days, o.got⟩, onD (dbD d) ⟨o.rs, o.weight, o.owed, o.purse, o.days, o.got⟩, onD (dbD d) ⟨o.rs, o.weight, o.purse, o.owed, o.days + 1, 0 - o.got⟩, onD (dbD d) ⟨o.rs, 10 ^ 12, o.purse, o.owed, o.days, o.got - 1⟩]) S') : CV c__law_otherwise [.ref h, onD (dbD d) o, .int many] S Q := by
  have hlt := H.lt
  rw [c__law_otherwise, e__law_registers]
  refine CV_hand (h := h) (n := n + 24) hlt rfl ?_
  unfold b__law_otherwise onD
  have s8 : szOk 8 = true := rfl
  refine SV_cut fun G hG => ?_
  (simp_arith! [cut_l3])
  refine hG _ _ ?_
  clear hG G
  refine SV_cut fun G hG => ?_
  (simp_arith! [cut_r3])
  refine hG _ _ ?_
  clear hG G
  refine SV_cut fun G hG => ?_
  unfold dbD
  (simp_arith! [])
  refine hG _ _ ?_
  clear hG G
  refine SV_cut fun G hG => ?_
  (simp_arith! [])
  refine CV_registers H (by omega) fun r1 S1 l1 b1 t1 => ?_
  (simp_arith! [r_mulT, rep_one, Int.toNat_natCast])
  refine ⟨rep_ok (by decide) (by decide) (by omega) (by omega), ?_⟩
  have ed : D.tup [.str "other", .int d.scale, .tup (r1.map D.int), .tup (d.stakes.map exD), .tup (List.replicate many (.tup []))] = dbD (bareDb many d r1) := by
    unfold bareDb dbD
    rw [deeds0]
  rw [ed]
  have ed2 : D.tup [.str d.name, .int d.scale, .tup (d.rs.map D.int), .tup (d.stakes.map exD), .tup (d.deeds.map dsD)] = dbD d := rfl
  rw [ed2]
  refine hG _ _ ?_
  clear hG G
  refine SV_cut fun G hG => ?_
  (simp_arith! [s8])
  refine CV_registers t1.hd (by omega) fun r2 S2 l2 b2 t2 => ?_
  have T := t1.trans t2
  (simp_arith! [s8])
  refine hG _ _ ?_
  clear hG G
  refine SV_cut fun G hG => ?_
  (simp_arith! [s8, box_last])
  refine ex_append.mpr ⟨rfl, ?_⟩
  (simp_arith! [set_last])
  refine hG _ _ ?_
  clear hG G
  refine SV_cut fun G hG => ?_
  (simp_arith! [s8, box_last])
  refine ex_append.mpr ⟨rfl, ?_⟩
  (simp_arith! [set_last])
  refine hG _ _ ?_
  clear hG G
  refine SV_cut fun G hG => ?_
  have p12 : (10 : Int) ^ Int.toNat 12 = 10 ^ 12 := rfl
  have k12 : powOk 10 12 = true := by decide +kernel
  (simp_arith! [s8, box_last, p12, k12])
  refine ex_append.mpr ⟨rfl, ?_⟩
  (simp_arith! [set_last])
  refine hG _ _ ?_
  clear hG G
  (simp_arith! [])
  have bo : ∀ (x : Dbt) (y : One), bare (dbD x) = true → bare (onD (dbD x) y) = true := fun x y hx => by
    show (true && (bare (dbD x) && (bareL (y.rs.map D.int) && true))) = true
    rw [hx, bareL_ints]
    rfl
  have b0 := (bare_one (rs := r1) hd hm l1 b1).2.br
  have b9 := (db_one hd hm).2.br
  refine ⟨T.hd.app.mono (by omega), T.up.trans .app, .inr ⟨S2.length, _, rfl, T.eq.symm ▸ Nat.le_refl _, get_last, ?_, fun S' hS => q r1 r2 S' l1 b1 l2 b2 hS⟩⟩
  have c0 := bo _ ⟨r2, o.weight, o.purse, o.owed, o.days, o.got⟩ b0
  have c1 := bo _ ⟨o.rs, o.weight, o.owed, o.purse, o.days, o.got⟩ b9
  have c2 := bo _ ⟨o.rs, o.weight, o.purse, o.owed, o.days + 1, 0 - o.got⟩ b9
  have c3 := bo _ ⟨o.rs, 10 ^ 12, o.purse, o.owed, o.days, o.got - 1⟩ b9
  exact Bool.and_eq_true_iff.mpr ⟨c0, Bool.and_eq_true_iff.mpr ⟨c1, Bool.and_eq_true_iff.mpr ⟨c2, Bool.and_eq_true_iff.mpr ⟨c3, rfl⟩⟩⟩⟩
theorem r_ne_int {S : Sto} {z : Int} : fNe S (.int z) (.int z) = some (.bl false) := by rw [r_ne]; simp
theorem pure_law (ns : List Int) (_ : ns.length ≤ 63) : c_law [.rol (ns.map D.int)] [] = some (.bl true, []) := by
  have hB : Bb 2 ≤ 2000 := by decide
  rw [c_law, e__law_hand, e__law_take, e__law_one, e__law_doubter, e_off, e_sure]
  refine CV.eq (CV_den rfl ?_)
  unfold b_law
  (simp_arith! [])
  have hb : ∀ z : Int, 1 ≤ (if (if z < 4 then z else 4) > 1 then (if z < 4 then z else 4) else 1) ∧ (if (if z < 4 then z else 4) > 1 then (if z < 4 then z else 4) else 1) ≤ 1000 := fun z => by split <;> split <;> omega
  obtain ⟨b1, b2⟩ := hb ((ns.map D.int).length : Int)
  generalize (if (if ((ns.map D.int).length : Int) < 4 then ((ns.map D.int).length : Int) else 4) > 1 then (if ((ns.map D.int).length : Int) < 4 then ((ns.map D.int).length : Int) else 4) else 1) = z at *
  refine ⟨rg_ok (by omega) (by omega), ?_⟩
  refine SV_forI (fun r e S => (∀ d, d ∈ r → ∃ i : Int, d = .int i ∧ 0 ≤ i ∧ i < z) ∧ ∃ x1 x2 x3 x4 x5 x6 x7, e = [some (.rol (ns.map D.int)), x1, x2, x3, x4, x5, x6, x7]) ⟨fun d hd => mem_rgD hd, _, _, _, _, _, _, _, rfl⟩ ?_ ?_
  · rintro d r e S K ⟨hr1, x1, x2, x3, x4, x5, x6, x7, rfl⟩ hK
    obtain ⟨i, rfl, i0, i1⟩ := hr1 d (List.mem_cons_self ..)
    (simp_arith! [])
    refine CV_newhand i0 (by omega) fun hd ho => ?_
    have h0 : HD 0 (S ++ [hd]) S.length := ⟨hd, by simp, ho⟩
    (simp_arith! [])
    refine ⟨rg_ok (by omega) (by omega), ?_⟩
    refine SV_forI (fun r2 e S' => r2.length ≤ 8 ∧ HD (2100 * (8 - r2.length)) S' S.length ∧ ∃ x3 x4 x5 x6 x7, e = [some (.rol (ns.map D.int)), some (.int i), some (.ref S.length), x3, x4, x5, x6, x7]) ⟨by rw [len_rgD]; decide, by rw [len_rgD]; exact h0.mono (by decide), _, _, _, _, _, rfl⟩ ?_ ?_
    · rintro d2 r2 e S3 K2 ⟨hl2, H3, y3, y4, y5, y6, y7, rfl⟩ hK2
      rw [List.length_cons] at hl2 H3
      refine GV_n.mpr ?_
      refine SV_cut fun G hG => ?_
      (simp_arith! [])
      refine CV_take H3 (by omega) (by decide) (by decide) fun a S4 a0 a1 t4 => ?_
      (simp_arith! [])
      obtain ⟨many, em, hm⟩ : ∃ m : Nat, (2 : Int) + a = (m : Int) ∧ (m = 2 ∨ m = 3) := ⟨(2 + a).toNat, by omega, by omega⟩
      rw [em]
      refine hG _ _ ?_
      clear hG G
      refine SV_cut fun G hG => ?_
      (simp_arith! [])
      have dbt : ∀ {P : D → Sto → Prop}, (∀ (d : Dbt) S', DbOk many 2 d → St S.length (2100 * (8 - (r2.length + 1)) + 1 + Bb 2) S4 S' → P (dbD d) S') → CV (Pv.c_doubter 3) [.ref S.length, .int many, .int 2, .int 1] S4 P := fun hP => CV_doubter (l := 2) hm (by decide) (by decide) t4.hd (by omega) hP
      refine dbt fun d S5 dok t5 => ?_
      refine CV_one (db_one dok hm).2.br t5.hd (by omega) fun o S6 ook t6 => ?_
      have ask := on_ask dok hm ook
      refine hG _ _ ?_
      clear hG G
      refine SV_cut fun G hG => ?_
      (simp_arith! [])
      refine other_ok t6.hd (by omega) dok hm ook fun r1 r2' S7 l1 q1 l2 q2 t7 => ?_
      refine hG _ _ ?_
      clear hG G
      have h1 := ook.we
      have h2 := ook.pu
      have h3 := ook.ow
      have h4 := ook.da
      have h5 := ook.go
      obtain ⟨bg, bdt⟩ := bare_one (rs := r1) dok hm l1 q1
      have A0 : Ask many (bareDb many d r1) ⟨r2', o.weight, o.purse, o.owed, o.days, o.got⟩ := ⟨bg, bdt, l2, q2, ask.we, ask.pu, ask.ow, ask.da, ask.go⟩
      have A1 : Ask many d ⟨o.rs, o.weight, o.owed, o.purse, o.days, o.got⟩ := ⟨ask.g, ask.dt, ask.rl, ask.rb, ask.we, ask.ow, ask.pu, ask.da, ask.go⟩
      have A2 : Ask many d ⟨o.rs, o.weight, o.purse, o.owed, o.days + 1, 0 - o.got⟩ := ⟨ask.g, ask.dt, ask.rl, ask.rb, ask.we, ask.pu, ask.ow, ⟨by show 0 ≤ o.days + 1; omega, by show o.days + 1 ≤ 40; omega⟩, ⟨by show -(10 ^ 11) ≤ 0 - o.got; omega, by show 0 - o.got ≤ 10 ^ 11; omega⟩⟩
      have A3 : Ask many d ⟨o.rs, 10 ^ 12, o.purse, o.owed, o.days, o.got - 1⟩ := ⟨ask.g, ask.dt, ask.rl, ask.rb, ⟨by show (0 : Int) ≤ 10 ^ 12; decide, by show (10 : Int) ^ 12 ≤ 10 ^ 12; decide⟩, ask.pu, ask.ow, ask.da, ⟨by show -(10 ^ 11) ≤ o.got - 1; omega, by show o.got - 1 ≤ 10 ^ 11; omega⟩⟩
      refine SV_cut fun G hG => ?_
      (simp_arith! [LV_cons, LV_nil])
      refine right_ok ask (right_ok A0 (right_ok A1 (right_ok A2 (right_ok A3 ?_))))
      (simp_arith! [])
      have al : ∀ T : Sto, gAll T (.lst [.bl true, .bl true, .bl true, .bl true, .bl true]) = some (.bl true) := fun _ => rfl
      (simp_arith! [al, Bool.not_true])
      refine hG _ _ ?_
      clear hG G
      (simp_arith! [])
      refine A0.off ?_
      refine ask.off ?_
      have eb : bnd (bareDb many d r1) = bnd d := rfl
      rw [eb]
      (simp_arith! [r_ne_int])
      refine A0.sure fun u hu => ?_
      refine ask.sure fun u2 hu2 => ?_
      have e9 : u2 = u := hu2.uniq hu
      rw [e9]
      have nO : ∀ T : Sto, fNe T (optD u) (optD u) = some (.bl false) := fun T => by
        rw [e9] at hu2
        refine r_ne_self 13 ?_ (by cases u <;> exact Nat.zero_le _)
        cases u with
        | none => rfl
        | some v =>
          obtain ⟨y1, y2, _⟩ := hu2
          exact decide_eq_true (by omega)
      (simp_arith! [nO])
      refine ⟨(fun n hn => nomatch hn), hK2 _ _ ⟨by omega, ?_, _, _, _, _, _, rfl⟩⟩
      exact t7.hd.mono (by omega)
    · rintro e S3 ⟨_, _, y3, y4, y5, y6, y7, rfl⟩
      exact ⟨(fun n hn => nomatch hn), hK _ _ ⟨fun d hd => hr1 d (List.mem_cons_of_mem _ hd), _, _, _, _, _, _, _, rfl⟩⟩
  · rintro e S ⟨_, x1, x2, x3, x4, x5, x6, x7, rfl⟩
    (simp_arith! [])
    exact ⟨Nat.zero_le _, (fun i ds hi => absurd hi (Nat.not_lt_zero _)), .bl true, rfl, rfl, rfl⟩
end Q44
set_option Elab.async false
set_option linter.all false
set_option maxRecDepth 100000
set_option maxHeartbeats 0
open PySem PySem.W PySem.Calls PyProof.Rows
theorem PySem.Challenge.cw_nonegrowsrich_k44_off_and_sure_of_ones_holds : PySem.Challenge.rw_nonegrowsrich_k44_off_and_sure_of_ones.Holds := by
  w_on; o_law
  refine HandSHeadRun.head_any (r := OpenLaw.row PySem.Challenge.rw_nonegrowsrich_k44_off_and_sure_of_ones) (q := view (OpenLaw.row PySem.Challenge.rw_nonegrowsrich_k44_off_and_sure_of_ones).prog [33]) (H := Q44.hkP) (ob := Q44.obP) (M := 3000) (loose := Q44.looseL) (d := HandSHeadRun.topDef (OpenLaw.row PySem.Challenge.rw_nonegrowsrich_k44_off_and_sure_of_ones).prog 33) (kwd := []) Q44.obP_eq
    (by kernel_rfl) (fun s => by kernel_rfl) Q44.runP (by kernel_rfl) (by kernel_rfl) (by kernel_rfl) (by rfl) (by first | assumption | decide +kernel) (by decide +kernel) ⟨rfl, rfl, rfl, rfl, rfl, by decide +kernel⟩ ?hw ?hc
  case hw => w_witness2
  case hc =>
    refine Pv.law_end (l := PySem.Challenge.rw_nonegrowsrich_k44_off_and_sure_of_ones) (n := 63) (k := 14) (x := "_law_script") (con := Q44.c_law) rfl (by decide) (by kernel_rfl) ⟨rfl, by decide, by decide⟩ ?F Q44.pure_law
    intro w mg fa h Y G hmg0
    obtain ⟨K, KX, c⟩ := Y
    have hmg : mg ("law" : PySem.Str) = some (.ref fa) := by
      have e : (HandSHeadRun.topDef (OpenLaw.row PySem.Challenge.rw_nonegrowsrich_k44_off_and_sure_of_ones).prog 33).name = ("law" : PySem.Str) := by kernel_rfl
      rw [← e]
      exact hmg0
    obtain ⟨fd, hb, hF⟩ := Q44.factsP (P := (PySem.Challenge.rw_nonegrowsrich_k44_off_and_sure_of_ones).prog) (w := w) KX G hmg c
    exact ⟨K, fd, KX, hb, hF⟩
